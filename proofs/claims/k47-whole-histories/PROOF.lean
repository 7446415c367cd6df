import PyProof.Rows.All
import PySem.Challenge.RW_barstay_k47_whole_histories
import HandS.ForMost
import HandS.Defaults
import KE.KStateDown
import HandS.Ends
import HandS.Words
import HandS.WordsExc
import HandS.Head0
import HandS.Head1
import HandS.Head2
import HandS.HeadEnd
import HandS.HeadHook1
import HandS.HeadHook2
import HandS.HeadHook3
import HandS.HeadHook4
import Wide.All
import OpenK.AllK
import Wide.FinOn
import HandS.Flow
import HandS.Deep
import HandS.NoneIn
import HandS.IsInst
import HandS.SortInts
import HandS.SortKw
import HandS.Style
import HandS.TupLen
import HandS.ListItems
import KE.SortData
import KE.SortKeyHeap
import KE.KDictKeyed
import KE.KDictItemsList
import PyProof.ReprRoads
import HandS.TupAny
import HandS.Walk
import HandS.More
import HandS.DictTup
import HandS.Conv
import PyProof.ReprBulk
set_option Elab.async false
set_option linter.all false
set_option maxRecDepth 100000
set_option maxHeartbeats 0
/-! L0: the text by places. -/
namespace K47
open PySem PySem.Spec PyProof.Rows L2
def top (i : Nat) : Stmt := PySem.Challenge.pw_barstay_k47_whole_histories.main.body.getD i (.Pass ⟨0, 0, 0, 0⟩)
end K47
/-! H1: the head. -/
namespace K47
open PySem PySem.Spec PyProof.Rows L2
def d0 : He.DefD := ⟨("is_number", none), "is_number", "is_number", defArgs (top 19), defBody (top 19), defScope (top 19), [], []⟩
def d1 : He.DefD := ⟨("is_height", none), "is_height", "is_height", defArgs (top 20), defBody (top 20), defScope (top 20), [], []⟩
def d2 : He.DefD := ⟨("is_simplex", none), "is_simplex", "is_simplex", defArgs (top 21), defBody (top 21), defScope (top 21), [], []⟩
def d3 : He.DefD := ⟨("faces_of", none), "faces_of", "faces_of", defArgs (top 22), defBody (top 22), defScope (top 22), [], []⟩
def d4 : He.DefD := ⟨("check_item", none), "check_item", "check_item", defArgs (top 23), defBody (top 23), defScope (top 23), [], []⟩
def d5 : He.DefD := ⟨("check_shape", none), "check_shape", "check_shape", defArgs (top 24), defBody (top 24), defScope (top 24), [], []⟩
def d6 : He.DefD := ⟨("growing_key", none), "growing_key", "growing_key", defArgs (top 25), defBody (top 25), defScope (top 25), [], []⟩
def d7 : He.DefD := ⟨("grown", none), "grown", "grown", defArgs (top 26), defBody (top 26), defScope (top 26), [], []⟩
def d8 : He.DefD := ⟨("order_of", none), "order_of", "order_of", defArgs (top 27), defBody (top 27), defScope (top 27), [], []⟩
def d9 : He.DefD := ⟨("bar_key", none), "bar_key", "bar_key", defArgs (top 28), defBody (top 28), defScope (top 28), [], []⟩
def d10 : He.DefD := ⟨("sorted_bars", none), "sorted_bars", "sorted_bars", defArgs (top 29), defBody (top 29), defScope (top 29), [], []⟩
def d11 : He.DefD := ⟨("added", none), "added", "added", defArgs (top 31), defBody (top 31), defScope (top 31), [], []⟩
def d12 : He.DefD := ⟨("last_of", none), "last_of", "last_of", defArgs (top 32), defBody (top 32), defScope (top 32), [], []⟩
def d13 : He.DefD := ⟨("boundary", none), "boundary", "boundary", defArgs (top 33), defBody (top 33), defScope (top 33), [], []⟩
def d14 : He.DefD := ⟨("bars_by", none), "bars_by", "bars_by", defArgs (top 35), defBody (top 35), defScope (top 35), [], []⟩
def d15 : He.DefD := ⟨("is_single", none), "is_single", "is_single", defArgs (top 39), defBody (top 39), defScope (top 39), [], []⟩
def d16 : He.DefD := ⟨("is_several", none), "is_several", "is_several", defArgs (top 40), defBody (top 40), defScope (top 40), [], []⟩
def d17 : He.DefD := ⟨("fits", none), "fits", "fits", defArgs (top 41), defBody (top 41), defScope (top 41), [], []⟩
def d18 : He.DefD := ⟨("can_be_done", none), "can_be_done", "can_be_done", defArgs (top 42), defBody (top 42), defScope (top 42), [], []⟩
def d19 : He.DefD := ⟨("singles", none), "singles", "singles", defArgs (top 43), defBody (top 43), defScope (top 43), [], []⟩
def d20 : He.DefD := ⟨("done", none), "done", "done", defArgs (top 44), defBody (top 44), defScope (top 44), [], []⟩
def d21 : He.DefD := ⟨("states", none), "states", "states", defArgs (top 45), defBody (top 45), defScope (top 45), [], []⟩
def d22 : He.DefD := ⟨("edited", none), "edited", "edited", defArgs (top 46), defBody (top 46), defScope (top 46), [], []⟩
def d23 : He.DefD := ⟨("back", none), "back", "back", defArgs (top 47), defBody (top 47), defScope (top 47), [], []⟩
def d24 : He.DefD := ⟨("inverse", none), "inverse", "inverse", defArgs (top 48), defBody (top 48), defScope (top 48), [], []⟩
def d25 : He.DefD := ⟨("can_follow", none), "can_follow", "can_follow", defArgs (top 50), defBody (top 50), defScope (top 50), [], []⟩
def d26 : He.DefD := ⟨("can_swap", none), "can_swap", "can_swap", defArgs (top 51), defBody (top 51), defScope (top 51), [], []⟩
def d27 : He.DefD := ⟨("exchanged", none), "exchanged", "exchanged", defArgs (top 52), defBody (top 52), defScope (top 52), [], []⟩
def d28 : He.DefD := ⟨("Kept", some "__init__"), "__init__", "Kept.__init__", defArgs (inClass (top 53) 0), defBody (inClass (top 53) 0), defScope (inClass (top 53) 0), [], []⟩
def d29 : He.DefD := ⟨("Kept", some "order"), "order", "Kept.order", defArgs (inClass (top 53) 1), defBody (inClass (top 53) 1), defScope (inClass (top 53) 1), [], []⟩
def d30 : He.DefD := ⟨("Kept", some "chains"), "chains", "Kept.chains", defArgs (inClass (top 53) 2), defBody (inClass (top 53) 2), defScope (inClass (top 53) 2), [], []⟩
def d31 : He.DefD := ⟨("Kept", some "pairs"), "pairs", "Kept.pairs", defArgs (inClass (top 53) 3), defBody (inClass (top 53) 3), defScope (inClass (top 53) 3), [], []⟩
def d32 : He.DefD := ⟨("Kept", some "put"), "put", "Kept.put", defArgs (inClass (top 53) 4), defBody (inClass (top 53) 4), defScope (inClass (top 53) 4), [], []⟩
def d33 : He.DefD := ⟨("Kept", some "drop"), "drop", "Kept.drop", defArgs (inClass (top 53) 5), defBody (inClass (top 53) 5), defScope (inClass (top 53) 5), [], []⟩
def d34 : He.DefD := ⟨("Kept", some "swap"), "swap", "Kept.swap", defArgs (inClass (top 53) 6), defBody (inClass (top 53) 6), defScope (inClass (top 53) 6), [], []⟩
def d35 : He.DefD := ⟨("Kept", some "_named"), "_named", "Kept._named", defArgs (inClass (top 53) 7), defBody (inClass (top 53) 7), defScope (inClass (top 53) 7), [], []⟩
def d36 : He.DefD := ⟨("Kept", some "_add"), "_add", "Kept._add", defArgs (inClass (top 53) 8), defBody (inClass (top 53) 8), defScope (inClass (top 53) 8), [], []⟩
def d37 : He.DefD := ⟨("Kept", some "_settle"), "_settle", "Kept._settle", defArgs (inClass (top 53) 9), defBody (inClass (top 53) 9), defScope (inClass (top 53) 9), [], []⟩
def d38 : He.DefD := ⟨("History", some "__init__"), "__init__", "History.__init__", defArgs (inClass (top 55) 0), defBody (inClass (top 55) 0), defScope (inClass (top 55) 0), [], []⟩
def d39 : He.DefD := ⟨("History", some "shape"), "shape", "History.shape", defArgs (inClass (top 55) 1), defBody (inClass (top 55) 1), defScope (inClass (top 55) 1), [], []⟩
def d40 : He.DefD := ⟨("History", some "pairs"), "pairs", "History.pairs", defArgs (inClass (top 55) 2), defBody (inClass (top 55) 2), defScope (inClass (top 55) 2), [], []⟩
def d41 : He.DefD := ⟨("History", some "chains"), "chains", "History.chains", defArgs (inClass (top 55) 3), defBody (inClass (top 55) 3), defScope (inClass (top 55) 3), [], []⟩
def d42 : He.DefD := ⟨("History", some "bars"), "bars", "History.bars", defArgs (inClass (top 55) 4), defBody (inClass (top 55) 4), defScope (inClass (top 55) 4), [], []⟩
def d43 : He.DefD := ⟨("History", some "do"), "do", "History.do", defArgs (inClass (top 55) 5), defBody (inClass (top 55) 5), defScope (inClass (top 55) 5), [], []⟩
def d44 : He.DefD := ⟨("History", some "undo"), "undo", "History.undo", defArgs (inClass (top 55) 6), defBody (inClass (top 55) 6), defScope (inClass (top 55) 6), [], []⟩
def d45 : He.DefD := ⟨("History", some "redo"), "redo", "History.redo", defArgs (inClass (top 55) 7), defBody (inClass (top 55) 7), defScope (inClass (top 55) 7), [], []⟩
def d46 : He.DefD := ⟨("History", some "_carry"), "_carry", "History._carry", defArgs (inClass (top 55) 9), defBody (inClass (top 55) 9), defScope (inClass (top 55) 9), [], []⟩
def d47 : He.DefD := ⟨("History", some "_carry_single"), "_carry_single", "History._carry_single", defArgs (inClass (top 55) 10), defBody (inClass (top 55) 10), defScope (inClass (top 55) 10), [], []⟩
def d48 : He.DefD := ⟨("History", some "_move"), "_move", "History._move", defArgs (inClass (top 55) 11), defBody (inClass (top 55) 11), defScope (inClass (top 55) 11), [], []⟩
def d49 : He.DefD := ⟨("_law_deck", none), "_law_deck", "_law_deck", defArgs (top 57), defBody (top 57), defScope (top 57), [], []⟩
def d50 : He.DefD := ⟨("_law_draw", none), "_law_draw", "_law_draw", defArgs (top 58), defBody (top 58), defScope (top 58), [], []⟩
def d51 : He.DefD := ⟨("_law_faces", none), "_law_faces", "_law_faces", defArgs (top 59), defBody (top 59), defScope (top 59), [], []⟩
def d52 : He.DefD := ⟨("_law_simplices", none), "_law_simplices", "_law_simplices", defArgs (top 60), defBody (top 60), defScope (top 60), [], []⟩
def d53 : He.DefD := ⟨("_law_sum", none), "_law_sum", "_law_sum", defArgs (top 61), defBody (top 61), defScope (top 61), [], []⟩
def d54 : He.DefD := ⟨("_law_pairs", none), "_law_pairs", "_law_pairs", defArgs (top 62), defBody (top 62), defScope (top 62), [], []⟩
def d55 : He.DefD := ⟨("_law_are_right", none), "_law_are_right", "_law_are_right", defArgs (top 63), defBody (top 63), defScope (top 63), [], []⟩
def d56 : He.DefD := ⟨("_law_grown", none), "_law_grown", "_law_grown", defArgs (top 64), defBody (top 64), defScope (top 64), [], []⟩
def d57 : He.DefD := ⟨("_law_shape", none), "_law_shape", "_law_shape", defArgs (top 65), defBody (top 65), defScope (top 65), [], []⟩
def d58 : He.DefD := ⟨("_law_bars", none), "_law_bars", "_law_bars", defArgs (top 66), defBody (top 66), defScope (top 66), [], []⟩
def d59 : He.DefD := ⟨("_law_cofaces", none), "_law_cofaces", "_law_cofaces", defArgs (top 67), defBody (top 67), defScope (top 67), [], []⟩
def d60 : He.DefD := ⟨("_law_single", none), "_law_single", "_law_single", defArgs (top 68), defBody (top 68), defScope (top 68), [], []⟩
def d61 : He.DefD := ⟨("_law_anew", none), "_law_anew", "_law_anew", defArgs (top 69), defBody (top 69), defScope (top 69), [], []⟩
def d62 : He.DefD := ⟨("_law_good_edit", none), "_law_good_edit", "_law_good_edit", defArgs (top 70), defBody (top 70), defScope (top 70), [], []⟩
def d63 : He.DefD := ⟨("_law_edit", none), "_law_edit", "_law_edit", defArgs (top 71), defBody (top 71), defScope (top 71), [], []⟩
def d64 : He.DefD := ⟨("_law_same", none), "_law_same", "_law_same", defArgs (top 72), defBody (top 72), defScope (top 72), [], []⟩
def d65 : He.DefD := ⟨("_law_is_kept", none), "_law_is_kept", "_law_is_kept", defArgs (top 73), defBody (top 73), defScope (top 73), [], []⟩
def d66 : He.DefD := ⟨("law", none), "law", "law", defArgs (top 74), defBody (top 74), defScope (top 74), [], []⟩
def fn0 : List He.DefD := [d0, d1, d2, d3, d4, d5, d6, d7, d8, d9, d10, d11, d12, d13, d14, d15, d16, d17, d18, d19, d20, d21, d22, d23, d24, d25, d26, d27, d28, d29]
def fn1 : List He.DefD := [d30, d31, d32, d33, d34, d35, d36, d37, d38, d39, d40, d41, d42, d43, d44, d45, d46, d47, d48, d49, d50, d51, d52, d53, d54, d55, d56, d57, d58, d59]
def fn2 : List He.DefD := [d60, d61, d62, d63, d64, d65, d66]
def fn : List He.DefD := fn0 ++ fn1 ++ fn2
def fa0 : List He.Fa := [.glo "is_number", .glo "is_height", .glo "is_simplex", .glo "faces_of", .glo "check_item", .glo "check_shape", .glo "growing_key", .glo "grown", .glo "order_of", .glo "bar_key", .glo "sorted_bars", .glo "added", .glo "last_of", .glo "boundary", .glo "bars_by", .glo "is_single", .glo "is_several", .glo "fits", .glo "can_be_done", .glo "singles", .glo "done", .glo "states", .glo "edited", .glo "back", .glo "inverse", .glo "can_follow", .glo "can_swap", .glo "exchanged", .glo "_law_deck", .glo "_law_draw"]
def fa1 : List He.Fa := [.glo "_law_faces", .glo "_law_simplices", .glo "_law_sum", .glo "_law_pairs", .glo "_law_are_right", .glo "_law_grown", .glo "_law_shape", .glo "_law_bars", .glo "_law_cofaces", .glo "_law_single", .glo "_law_anew", .glo "_law_good_edit", .glo "_law_edit", .glo "_law_same", .glo "_law_is_kept", .glo "law", .glo "Kept", .glo "History", .glo "LENGTHS", .free "len", .free "range", .free "sorted", .free "tuple", .free "list", .free "dict", .free "all", .free "any", .free "max", .free "min", .free "abs"]
def fa2 : List He.Fa := [.free "int", .free "str", .free "bool", .free "isinstance", .free "enumerate", .free "zip", .free "repr", .int "SIMPLICES_MOST" 60, .int "VERTEX_MOST" 11, .int "VERTICES_MOST" 3, .int "HEIGHT_MOST" 1000, .int "EDITS_MOST" 20, .cls "Kept", .mkr "Kept", .noat "Kept" "_order", .noat "Kept" "_chains", .noat "Kept" "_bounds", .noat "Kept" "_fillers", .cls "History", .mkr "History", .noat "History" "_shape", .noat "History" "_kept", .noat "History" "_done", .noat "History" "_undone", .noat "History" "_swaps", .meth "Kept" "order", .meth "Kept" "chains", .meth "Kept" "pairs", .meth "Kept" "put", .meth "Kept" "drop"]
def fa3 : List He.Fa := [.meth "Kept" "swap", .meth "Kept" "_named", .meth "Kept" "_add", .meth "Kept" "_settle", .meth "History" "shape", .meth "History" "pairs", .meth "History" "chains", .meth "History" "bars", .meth "History" "do", .meth "History" "undo", .meth "History" "redo", .meth "History" "_carry", .meth "History" "_carry_single", .meth "History" "_move"]
def fa : List He.Fa := fa0 ++ fa1 ++ fa2 ++ fa3
def loose0 : List PySem.Str := ["_wall", "__name__", "BarError", "BadShape", "BadSimplex", "BadHeight", "DuplicateSimplex", "MissingFace", "LateFace", "BadOrder", "BadSwap", "BadEdit", "NothingToUndo", "NothingToRedo", "SIMPLICES_MOST", "VERTEX_MOST", "VERTICES_MOST", "HEIGHT_MOST", "is_number", "is_height", "is_simplex", "faces_of", "check_item", "check_shape", "growing_key", "grown", "order_of", "bar_key", "sorted_bars", "added"]
def loose1 : List PySem.Str := ["last_of", "boundary", "bars_by", "EDITS_MOST", "LENGTHS", "is_single", "is_several", "fits", "can_be_done", "singles", "done", "states", "edited", "back", "inverse", "can_follow", "can_swap", "exchanged", "Kept", "History", "_law_deck", "_law_draw", "_law_faces", "_law_simplices", "_law_sum", "_law_pairs", "_law_are_right", "_law_grown", "_law_shape", "_law_bars"]
def loose2 : List PySem.Str := ["_law_cofaces", "_law_single", "_law_anew", "_law_good_edit", "_law_edit", "_law_same", "_law_is_kept"]
def loose : List PySem.Str := loose0 ++ loose1 ++ loose2
def ts : List He.Tab := [(fun K => He.ga K "LENGTHS", ["height", "add", "take"])]
def ex (K : PySem.W.Frag) : Bool := He.valsB K (He.ga K "LENGTHS") [("height", .int 3), ("add", .int 3), ("take", .int 2)]
abbrev RR : PySem.W.OpenRow := PySem.W.OpenLaw.row PySem.Challenge.rw_barstay_k47_whole_histories
abbrev hk : PySem.W.Hook := He.hookX 4 fa fn ts [] ex
def ob (s : PySem.W.SharedT) : He.AlX := He.obsX 4 fa fn ts [] ex (HandSHeadRun.getT s)
theorem ob_eq (s : PySem.W.SharedT) : ob s = hk.obs s.abs := He.obsX_eq (HandSHeadRun.getT_eq s)
theorem run_f (w : World) : HandSHeadRun.RunEq RR (PySem.W.view RR.prog [74]) hk ob 8000 loose (w.withFollow "special-get-raises" false) := by
  intro os
  kernel_rfl
theorem run_t (w : World) : HandSHeadRun.RunEq RR (PySem.W.view RR.prog [74]) hk ob 8000 loose (w.withFollow "special-get-raises" true) := by
  intro os
  kernel_rfl
theorem run_eq (w : World) : HandSHeadRun.RunEq RR (PySem.W.view RR.prog [74]) hk ob 8000 loose w := PySem.W.byRow2 "special-get-raises" (P := fun w => HandSHeadRun.RunEq RR (PySem.W.view RR.prog [74]) hk ob 8000 loose w) run_f run_t w
end K47
/-! K0: data over the abstract heap; one-phase weakest preconditions over HandS; pure judgements. -/
namespace K47
open PySem PySem.Spec PyProof.Rows L2
/-! ### immutable data: tuples of ints, texts, truth values, None, nested -/
mutual
inductive Im (H : Hp) : V → PyData → Prop
  | non : Im H .non .none
  | bl (b : Bool) : Im H (.bl b) (.bool b)
  | int (i : Int) : Im H (.int i) (.int i)
  | str (x : Str) : Im H (.str x) (.str x)
  | tup {a : Addr} {xs : List V} {ds : List PyData} : H a = some (.tup xs) → ImAll H xs ds → Im H (.ref a) (.tuple ds)
inductive ImAll (H : Hp) : List V → List PyData → Prop
  | nil : ImAll H [] []
  | cons {v : V} {vs : List V} {d : PyData} {ds : List PyData} : Im H v d → ImAll H vs ds → ImAll H (v :: vs) (d :: ds)
end
/-- tuples stay -/
def Tx (H H' : Hp) : Prop := ∀ a xs, H a = some (.tup xs) → H' a = some (.tup xs)
theorem Tx.refl (H : Hp) : Tx H H := fun _ _ h => h
theorem Tx.trans {H H1 H2 : Hp} (a : Tx H H1) (b : Tx H1 H2) : Tx H H2 := fun c o h => b c o (a c o h)
theorem Tx.of {H H' : Hp} (e : Same H H') : Tx H H' := fun a xs h => e a _ h
theorem Tx.new {H : Hp} {p : Addr} {o : HO} (h : H p = none) : Tx H (upd H p o) := fun a xs e => by rw [upd_ne (ne_of_none e h)]; exact e
theorem Tx.mut {H : Hp} {p : Addr} {o u : HO} (h : H p = some u) (hu : ∀ xs, u ≠ .tup xs) : Tx H (upd H p o) := fun a xs e => by
  rw [upd_ne]; exact e
  intro q; subst q; rw [h] at e; exact hu xs (Option.some.inj e)
mutual
theorem Im.mono {H H' : Hp} (t : Tx H H') : ∀ {v : V} {d : PyData}, Im H v d → Im H' v d
  | _, _, .non => .non
  | _, _, .bl b => .bl b
  | _, _, .int i => .int i
  | _, _, .str x => .str x
  | _, _, .tup h a => .tup (t _ _ h) (ImAll.mono t a)
theorem ImAll.mono {H H' : Hp} (t : Tx H H') : ∀ {vs : List V} {ds : List PyData}, ImAll H vs ds → ImAll H' vs ds
  | _, _, .nil => .nil
  | _, _, .cons a b => .cons (Im.mono t a) (ImAll.mono t b)
end
mutual
theorem Im.dp {K : PySem.W.Frag} {H : Hp} : ∀ {v : V} {d : PyData}, Im H v d → Dp K H v d
  | _, _, .non => .non
  | _, _, .bl b => .bl b
  | _, _, .int i => .int i
  | _, _, .str x => .str x
  | _, _, .tup h a => .tup (SqT.of h) (ImAll.dp a)
theorem ImAll.dp {K : PySem.W.Frag} {H : Hp} : ∀ {vs : List V} {ds : List PyData}, ImAll H vs ds → DpAll K H vs ds
  | _, _, .nil => .nil
  | _, _, .cons a b => .cons (Im.dp a) (ImAll.dp b)
end
section
variable {H : Hp}
theorem ImAll.length : ∀ {vs : List V} {ds : List PyData}, ImAll H vs ds → vs.length = ds.length
  | _, _, .nil => rfl
  | _, _, .cons _ b => congrArg (· + 1) (ImAll.length b)
theorem ImAll.get : ∀ {vs : List V} {ds : List PyData} {i : Nat} {d : PyData}, ImAll H vs ds → ds[i]? = some d → ∃ v, vs[i]? = some v ∧ Im H v d
  | _, _, _, _, .nil, h => by simp at h
  | _, _, 0, _, .cons a _, h => by simp at h; subst h; exact ⟨_, rfl, a⟩
  | _, _, i + 1, _, .cons _ b, h => by
    obtain ⟨v, h1, h2⟩ := ImAll.get (i := i) b (by simpa using h)
    exact ⟨v, by simpa using h1, h2⟩
theorem ImAll.get' {vs : List V} {ds : List PyData} {i : Nat} {v : V} (a : ImAll H vs ds) (h : vs[i]? = some v) : ∃ d, ds[i]? = some d ∧ Im H v d := by
  have hl := a.length
  obtain ⟨h1, e1⟩ := List.getElem?_eq_some_iff.mp h
  obtain ⟨v', e2, r⟩ := a.get (List.getElem?_eq_getElem (l := ds) (i := i) (by omega))
  rw [h] at e2; cases e2
  exact ⟨_, List.getElem?_eq_getElem (by omega), r⟩
theorem ImAll.append : ∀ {vs ws : List V} {ds es : List PyData}, ImAll H vs ds → ImAll H ws es → ImAll H (vs ++ ws) (ds ++ es)
  | _, _, _, _, .nil, b => b
  | _, _, _, _, .cons a t, b => .cons a (ImAll.append t b)
theorem ImAll.take : ∀ {vs : List V} {ds : List PyData} (n : Nat), ImAll H vs ds → ImAll H (vs.take n) (ds.take n)
  | _, _, 0, _ => by simpa using ImAll.nil
  | _, _, _ + 1, .nil => .nil
  | _, _, n + 1, .cons a t => .cons a (ImAll.take n t)
theorem ImAll.drop : ∀ {vs : List V} {ds : List PyData} (n : Nat), ImAll H vs ds → ImAll H (vs.drop n) (ds.drop n)
  | _, _, 0, a => by simpa using a
  | _, _, _ + 1, .nil => .nil
  | _, _, n + 1, .cons _ t => ImAll.drop n t
theorem ImAll.set {v : V} {d : PyData} (r : Im H v d) : ∀ {vs : List V} {ds : List PyData} (n : Nat), ImAll H vs ds → ImAll H (vs.set n v) (ds.set n d)
  | _, _, _, .nil => .nil
  | _, _, 0, .cons _ t => .cons r t
  | _, _, n + 1, .cons a t => .cons a (ImAll.set r n t)
theorem ImAll.reverse : ∀ {vs : List V} {ds : List PyData}, ImAll H vs ds → ImAll H vs.reverse ds.reverse
  | _, _, .nil => .nil
  | _, _, .cons a t => by rw [List.reverse_cons, List.reverse_cons]; exact (ImAll.reverse t).append (.cons a .nil)
theorem ImAll.eraseIdx : ∀ {vs : List V} {ds : List PyData} (n : Nat), ImAll H vs ds → ImAll H (vs.eraseIdx n) (ds.eraseIdx n)
  | _, _, _, .nil => .nil
  | _, _, 0, .cons _ t => t
  | _, _, n + 1, .cons a t => .cons a (ImAll.eraseIdx n t)
theorem ImAll.ints : ∀ (ns : List Int), ImAll H (ns.map V.int) (ns.map .int)
  | [] => .nil
  | _ :: r => .cons (.int _) (ImAll.ints r)
theorem ImAll.of_ints : ∀ {ns : List Int} {vs : List V}, ImAll H vs (ns.map .int) → vs = ns.map V.int
  | [], _, h => by cases h; rfl
  | n :: r, _, h => by
    cases h with
    | cons a t => cases a; rw [ImAll.of_ints t]; rfl
theorem ImAll.bools : ∀ (ns : List Bool), ImAll H (ns.map V.bl) (ns.map .bool)
  | [] => .nil
  | _ :: r => .cons (.bl _) (ImAll.bools r)
theorem ImAll.of_bools : ∀ {ns : List Bool} {vs : List V}, ImAll H vs (ns.map .bool) → vs = ns.map V.bl
  | [], _, h => by cases h; rfl
  | n :: r, _, h => by
    cases h with
    | cons a t => cases a; rw [ImAll.of_bools t]; rfl
/-- a tuple of ints -/
theorem Im.tup_ints {v : V} {ns : List Int} (h : Im H v (.tuple (ns.map .int))) : ∃ a, v = .ref a ∧ H a = some (.tup (ns.map V.int)) := by
  cases h with
  | tup h a => rw [ImAll.of_ints a] at h; exact ⟨_, rfl, h⟩
theorem Im.of_ints {a : Addr} {ns : List Int} (h : H a = some (.tup (ns.map V.int))) : Im H (.ref a) (.tuple (ns.map .int)) := .tup h (ImAll.ints ns)
end
/-! ### a list of data at an address -/
def Ls (H : Hp) (a : Addr) (ds : List PyData) : Prop := ∃ vs, H a = some (.lst vs) ∧ ImAll H vs ds
theorem Ls.mono {H H' : Hp} {a : Addr} {ds : List PyData} (e : Same H H') (h : Ls H a ds) : Ls H' a ds := by
  obtain ⟨vs, h1, h2⟩ := h
  exact ⟨vs, e _ _ h1, h2.mono (.of e)⟩
theorem Ls.dp {K : PySem.W.Frag} {H : Hp} {a : Addr} {ds : List PyData} (h : Ls H a ds) : Dp K H (.ref a) (.list ds) := by
  obtain ⟨vs, h1, h2⟩ := h
  exact .lst (SqL.of h1) h2.dp
theorem Ls.ints {H : Hp} {a : Addr} {ns : List Int} (h : Ls H a (ns.map .int)) : H a = some (.lst (ns.map V.int)) := by
  obtain ⟨vs, h1, h2⟩ := h
  rw [h2.of_ints] at h1; exact h1
theorem Ls.of_ints {H : Hp} {a : Addr} {ns : List Int} (h : H a = some (.lst (ns.map V.int))) : Ls H a (ns.map .int) := ⟨_, h, ImAll.ints ns⟩
/-! ### descriptors -/
/-- d: immutable data; l: a list of such; t: a dict from tuples of ints to ints; k: a dict from ints to ints -/
inductive Rs where
  | d (x : PyData)
  | l (ds : List PyData)
  | t (kvs : List (List Int × Int))
  | k (kvs : List (Int × Int))
  | f (C : Addr) (x : Str) (r : Rs)
  | b (r s : Rs)
  | x (φ : Hp → V → Prop) (m : ∀ H H' v, Same H H' → φ H v → φ H' v) (k : ∀ H d od (kvs : List (List L2.Key × V)) v, H d = some (.dT kvs) → φ H v → φ (upd H d (.frz od (.dT kvs))) v)
def encT (kvs : List (List Int × Int)) : List (List L2.Key × V) := kvs.map fun p => (p.1.map Sum.inl, V.int p.2)
def encK (kvs : List (Int × Int)) : List (L2.Key × V) := kvs.map fun p => (Sum.inl p.1, V.int p.2)
def At (H : Hp) (v : V) : Rs → Prop
  | .d x => Im H v x
  | .l ds => ∃ a, v = .ref a ∧ Ls H a ds
  | .t kvs => ∃ a, v = .ref a ∧ Rd H a (.dT (encT kvs))
  | .k kvs => ∃ a, v = .ref a ∧ Rd H a (.dK (encK kvs))
  | .f C x r => ∃ a dx fs u, v = .ref a ∧ H a = some (.ins C dx fs) ∧ fs.lookup x = some u ∧ At H u r
  | .b r s => At H v r ∧ At H v s
  | .x φ _ _ => φ H v
theorem rd_mono {H H' : Hp} {a : Addr} {u : HO} (e : Same H H') (h : Rd H a u) : Rd H' a u := by
  rcases h with h | ⟨o, h⟩
  · exact .inl (e _ _ h)
  · exact .inr ⟨o, e _ _ h⟩
theorem At.mono {H H' : Hp} (e : Same H H') {v : V} {r : Rs} (h : At H v r) : At H' v r := by
  induction r generalizing v with
  | f C x r ih => obtain ⟨a, dx, fs, u, rfl, h1, h2, h3⟩ := h; exact ⟨a, dx, fs, u, rfl, e _ _ h1, h2, ih h3⟩
  | b r s ih1 ih2 => exact ⟨ih1 h.1, ih2 h.2⟩
  | x φ m k => exact m _ _ _ e h
  | d x => exact Im.mono (.of e) h
  | l ds => obtain ⟨a, rfl, h⟩ := h; exact ⟨a, rfl, h.mono e⟩
  | t kvs => obtain ⟨a, rfl, h⟩ := h; exact ⟨a, rfl, rd_mono e h⟩
  | k kvs => obtain ⟨a, rfl, h⟩ := h; exact ⟨a, rfl, rd_mono e h⟩
abbrev AtAll (H : Hp) : List V → List Rs → Prop := Paired (At H)
theorem AtAll.mono {H H' : Hp} (e : Same H H') {vs : List V} {rs : List Rs} (h : AtAll H vs rs) : AtAll H' vs rs := Paired.mapP h fun _ _ q => q.mono e
/-! ### slots by descriptors -/
abbrev Gm : Type := List (Option Rs)
structure Sl (H : Hp) (σ : L2.St) (Γ : Gm) : Prop where
  len : Γ.length = σ.length
  at_ : ∀ (i : Nat) (r : Rs), Γ[i]? = some (some r) → ∃ v, σ[i]? = some (some v) ∧ At H v r
theorem Sl.mono {H H' : Hp} {σ : L2.St} {Γ : Gm} (e : Same H H') (h : Sl H σ Γ) : Sl H' σ Γ := ⟨h.len, fun i r q => let ⟨v, h1, h2⟩ := h.at_ i r q; ⟨v, h1, h2.mono e⟩⟩
theorem Sl.set {H : Hp} {σ : L2.St} {Γ : Gm} {v : V} {r : Rs} (i : Nat) (h : Sl H σ Γ) (a : At H v r) : Sl H (σ.set i (some v)) (Γ.set i (some r)) := by
  refine ⟨by simp [h.len], fun j q e => ?_⟩
  by_cases hj : i = j
  · subst hj
    have hi : i < Γ.length := by
      have := (List.getElem?_eq_some_iff.mp e).1
      simpa using this
    rw [List.getElem?_set_self hi] at e
    cases e
    exact ⟨v, List.getElem?_set_self (by rw [← h.len]; exact hi), a⟩
  · rw [List.getElem?_set_ne hj] at e
    obtain ⟨w, h1, h2⟩ := h.at_ j q e
    exact ⟨w, by rw [List.getElem?_set_ne hj]; exact h1, h2⟩
/-- any value at a slot that is not described -/
theorem Sl.set0 {H : Hp} {σ : L2.St} {Γ : Gm} {v : V} (i : Nat) (h : Sl H σ Γ) : Sl H (σ.set i (some v)) (Γ.set i none) := by
  refine ⟨by simp [h.len], fun j q e => ?_⟩
  by_cases hj : i = j
  · subst hj
    have hi : i < Γ.length := by
      have := (List.getElem?_eq_some_iff.mp e).1
      simpa using this
    rw [List.getElem?_set_self hi] at e
    cases e
  · rw [List.getElem?_set_ne hj] at e
    obtain ⟨w, h1, h2⟩ := h.at_ j q e
    exact ⟨w, by rw [List.getElem?_set_ne hj]; exact h1, h2⟩
/-! ### one phase: what is wanted of a piece of syntax -/
section
variable (X : Cx)
def WE (e : Expr) : TE := fun σ H Q => ∀ (pins : List (Addr × Obj)) (s : Shared), Inv X pins σ H s → wpAny (model X.prog X.w) X.A (eval e X.env) (EP X pins σ Q) X.xe s
def WT (e : Expr) : TT := fun σ H Q => ∀ (pins : List (Addr × Obj)) (s : Shared), Inv X pins σ H s → wpAny (model X.prog X.w) X.A (isTrue e X.env (eval e X.env)) (TP X pins σ Q) X.xe s
def WB (e : Expr) : TT := fun σ H Q => ∀ (whole : Sem Value) (pins : List (Addr × Obj)) (s : Shared), Inv X pins σ H s → wpAny (model X.prog X.w) X.A (isTrue e X.env whole) (TP X pins σ Q) X.xe s
def WA (es : List Expr) : TA := fun σ H Q => ∀ (pos : Pos) (pins : List (Addr × Obj)) (s : Shared), Inv X pins σ H s → wpAny (model X.prog X.w) X.A (spliced (backTo pos (starEach es X.env))) (AP X pins σ Q) X.xe s
def WS (st : Stmt) : TS := fun D σ H => ∀ (pins : List (Addr × Obj)) (s : Shared), Inv X pins σ H s → wpAny (model X.prog X.w) X.A (exec st X.env) (SP X pins D) X.xe s
def WSs (st : List Stmt) : TS := fun D σ H => ∀ (pins : List (Addr × Obj)) (s : Shared), Inv X pins σ H s → wpAny (model X.prog X.w) X.A (execs st X.env) (SP X pins D) X.xe s
end
section
variable {X : Cx}
theorem pe_we {e : Expr} : PE X e (WE X e) := ⟨fun pins s _ _ _ I h => h pins s I⟩
theorem pt_wt {e : Expr} : PT X e (WT X e) := ⟨fun pins s _ _ _ I h => h pins s I⟩
theorem pw_wb {e : Expr} : PW X e (WB X e) := ⟨fun wh pins s _ _ _ I h => h wh pins s I⟩
theorem pa_wa {es : List Expr} : PA X es (WA X es) := ⟨fun pos pins s _ _ _ I h => h pos pins s I⟩
theorem ps_ws {st : Stmt} : PS X st (WS X st) := ⟨fun pins s _ _ _ I h => h pins s I⟩
theorem pss_wss {st : List Stmt} : PSs X st (WSs X st) := ⟨fun pins s _ _ _ I h => h pins s I⟩
theorem we_of {e : Expr} {t : TE} {σ : L2.St} {H : Hp} {Q : VK} (h : PE X e t) (q : t σ H Q) : WE X e σ H Q := fun pins s I => h.run pins s σ H Q I q
theorem wt_of {e : Expr} {t : TT} {σ : L2.St} {H : Hp} {Q : Bool → Hp → Prop} (h : PT X e t) (q : t σ H Q) : WT X e σ H Q := fun pins s I => h.run pins s σ H Q I q
theorem wb_of {e : Expr} {t : TT} {σ : L2.St} {H : Hp} {Q : Bool → Hp → Prop} (h : PW X e t) (q : t σ H Q) : WB X e σ H Q := fun wh pins s I => h.run wh pins s σ H Q I q
theorem wa_of {es : List Expr} {t : TA} {σ : L2.St} {H : Hp} {Q : List V → Hp → Prop} (h : PA X es t) (q : t σ H Q) : WA X es σ H Q := fun pos pins s I => h.run pos pins s σ H Q I q
theorem ws_of {st : Stmt} {t : TS} {σ : L2.St} {H : Hp} {D : Ends} (h : PS X st t) (q : t D σ H) : WS X st D σ H := fun pins s I => h.run pins s σ H D I q
theorem wss_of {st : List Stmt} {t : TS} {σ : L2.St} {H : Hp} {D : Ends} (h : PSs X st t) (q : t D σ H) : WSs X st D σ H := fun pins s I => h.run pins s σ H D I q
end
/-! ### pure judgements -/
section
variable (X : Cx) (Γ : Gm)
/-- e gives r, whatever else stands, and keeps all that stands -/
def Pu (e : Expr) (r : Rs) : Prop := ∀ (σ : L2.St) (H : Hp), Sl H σ Γ → ∀ Q : VK, (∀ v H', Same H H' → At H' v r → Q v H') → WE X e σ H Q
/-- e gives a new list of ds -/
def PuN (e : Expr) (ds : List PyData) : Prop := ∀ (σ : L2.St) (H : Hp), Sl H σ Γ → ∀ Q : VK, (∀ p H', H p = none → Same H H' → Ls H' p ds → Q (.ref p) H') → WE X e σ H Q
def PuT (e : Expr) (b : Bool) : Prop := ∀ (σ : L2.St) (H : Hp), Sl H σ Γ → ∀ Q : Bool → Hp → Prop, (∀ H', Same H H' → Q b H') → WT X e σ H Q
def PuB (e : Expr) (b : Bool) : Prop := ∀ (σ : L2.St) (H : Hp), Sl H σ Γ → ∀ Q : Bool → Hp → Prop, (∀ H', Same H H' → Q b H') → WB X e σ H Q
def PuA (es : List Expr) (rs : List Rs) : Prop := ∀ (σ : L2.St) (H : Hp), Sl H σ Γ → ∀ Q : List V → Hp → Prop, (∀ vs H', Same H H' → AtAll H' vs rs → Q vs H') → WA X es σ H Q
end
/-- what an operation on values gives, by descriptors -/
def RV2 (r : R2) (ra rb rc : Rs) : Prop := ∀ (H : Hp) (x y : V), At H x ra → At H y rb → ∀ Q : VK, (∀ v H', Same H H' → At H' v rc → Q v H') → r x y H Q
def RVc (r : List V → Hp → VK → Prop) (ras : List Rs) (rc : Rs) : Prop := ∀ (H : Hp) (xs : List V), AtAll H xs ras → ∀ Q : VK, (∀ v H', Same H H' → At H' v rc → Q v H') → r xs H Q
def RVn (r : List V → Hp → VK → Prop) (ras : List Rs) (ds : List PyData) : Prop := ∀ (H : Hp) (xs : List V), AtAll H xs ras → ∀ Q : VK, (∀ p H', H p = none → Same H H' → Ls H' p ds → Q (.ref p) H') → r xs H Q
section
variable {X : Cx} {Γ : Gm} {pos : Pos}
theorem PuN.pu {e : Expr} {ds : List PyData} (h : PuN X Γ e ds) : Pu X Γ e (.l ds) := fun σ H S Q q => h σ H S Q fun p H' _ s l => q _ _ s ⟨p, rfl, l⟩
theorem Pu.to {e : Expr} {r r' : Rs} (h : Pu X Γ e r) (q : r = r') : Pu X Γ e r' := q ▸ h
theorem PuN.to {e : Expr} {r r' : List PyData} (h : PuN X Γ e r) (q : r = r') : PuN X Γ e r' := q ▸ h
theorem PuT.to {e : Expr} {r r' : Bool} (h : PuT X Γ e r) (q : r = r') : PuT X Γ e r' := q ▸ h
theorem pu_var {x : Str} {r : Rs} (i : Nat) (hN : X.N[i]? = some x := by rfl) (hG : Γ[i]? = some (some r) := by rfl)
    (hv : Vis X.env.scope x := by first | exact Or.inl rfl | exact Or.inr (Or.inl rfl) | exact Or.inr (Or.inr rfl)) (hd : (x == ("__debug__" : Str)) = false := by decide) (hcd : (x == ("__classdict__" : Str)) = false := by decide) : Pu X Γ (.Name x pos) r := by
  intro σ H S Q q
  obtain ⟨v, h1, h2⟩ := S.at_ i r hG
  exact we_of (pe_var hN hv hd hcd) ⟨v, h1, q _ _ (Same.refl H) h2⟩
theorem pu_int {i j} : Pu X Γ (.Constant (.int i) j pos) (.d (.int i)) := fun σ H S Q q => we_of pe_int (q _ _ (Same.refl H) (.int i))
theorem pu_bl {i j} : Pu X Γ (.Constant (.bool i) j pos) (.d (.bool i)) := fun σ H S Q q => we_of pe_bl (q _ _ (Same.refl H) (.bl i))
theorem pu_non {j} : Pu X Γ (.Constant .none j pos) (.d .none) := fun σ H S Q q => we_of pe_non (q _ _ (Same.refl H) .non)
theorem pu_str {i j} : Pu X Γ (.Constant (.str i) j pos) (.d (.str i)) := fun σ H S Q q => we_of pe_str (q _ _ (Same.refl H) (.str i))
theorem pu_gint {x : Str} {i : Int} (hm : ∃ t, X.mg x = some (.int i t)) (hg : Gl X x := by rfl) (hd : (x == ("__debug__" : Str)) = false := by decide) : Pu X Γ (.Name x pos) (.d (.int i)) := fun σ H S Q q => by
  obtain ⟨t, hm⟩ := hm
  exact we_of (pe_glob hg hm (v := .int i) ⟨t, rfl⟩ hd) (q _ _ (Same.refl H) (.int i))
theorem pu_bin {op : Operator} {r : R2} {ra rb rc : Rs} {a b : Expr} (ho : OpR X (binaryOp op) r) (h : RV2 r ra rb rc) (ha : Pu X Γ a ra) (hb : Pu X Γ b rb) : Pu X Γ (.BinOp a op b pos) rc := fun σ H S Q q =>
  we_of (pe_op ho pe_we pe_we) (ha σ H S _ fun x H1 s1 a1 => hb σ H1 (S.mono s1) _ fun y H2 s2 a2 => h H2 x y (a1.mono s2) a2 Q fun v H3 s3 a3 => q v H3 ((s1.trans s2).trans s3) a3)
theorem pu_cmp {op : CmpOp} {r : R2} {ra rb rc : Rs} {a b : Expr} (ho : OpR X (compareOp op) r) (h : RV2 r ra rb rc) (hm : behindInMarks op b = false) (ha : Pu X Γ a ra) (hb : Pu X Γ b rb) : Pu X Γ (.Compare a [op] [b] pos) rc := fun σ H S Q q =>
  we_of (pe_cmpR ho pe_we pe_we hm) (ha σ H S _ fun x H1 s1 a1 => hb σ H1 (S.mono s1) _ fun y H2 s2 a2 => h H2 x y (a1.mono s2) a2 Q fun v H3 s3 a3 => q v H3 ((s1.trans s2).trans s3) a3)
theorem put_cmp {op : CmpOp} {r : R2} {ra rb : Rs} {c : Bool} {a b : Expr} (ho : OpR X (compareOp op) r) (h : RV2 r ra rb (.d (.bool c))) (hm : behindInMarks op b = false) (ha : Pu X Γ a ra) (hb : Pu X Γ b rb) : PuT X Γ (.Compare a [op] [b] pos) c := fun σ H S Q q =>
  wt_of (pt_cmpR ho pe_we pe_we hm) (ha σ H S _ fun x H1 s1 a1 => hb σ H1 (S.mono s1) _ fun y H2 s2 a2 => h H2 x y (a1.mono s2) a2 _ fun v H3 s3 a3 => by
    cases a3; exact ⟨c, rfl, q H3 ((s1.trans s2).trans s3)⟩)
theorem pu_un {op : UnaryOp} {r : V → Hp → VK → Prop} {ra rc : Rs} {a : Expr} (ho : UnR X (unaryOp op) r) (h : ∀ (H : Hp) (x : V), At H x ra → ∀ Q : VK, (∀ v H', Same H H' → At H' v rc → Q v H') → r x H Q) (ha : Pu X Γ a ra) : Pu X Γ (.UnaryOp op a pos) rc := fun σ H S Q q =>
  we_of (pe_un ho pe_we) (ha σ H S _ fun x H1 s1 a1 => h H1 x a1 Q fun v H3 s3 a3 => q v H3 (s1.trans s3) a3)
/-- a chain of two comparisons of ints -/
theorem pu_val {e : Expr} {b : Bool} (h : Pu X Γ e (.d (.bool b))) (he : ∀ whole, isTrue e X.env whole = (do let v ← whole; standAt e.pos; holding [v] (truthy v)) := by intro _; rfl) : PuT X Γ e b := fun σ H S Q q =>
  wt_of (pt_val pe_we he) (h σ H S _ fun v H' s a => by cases a; exact ⟨b, rfl, q H' s⟩)
theorem put_not {e : Expr} {b : Bool} (h : PuT X Γ e b) : PuT X Γ (.UnaryOp .Not e pos) (!b) := fun σ H S Q q => wt_of (pt_not pt_wt) (h σ H S _ fun H' s => q H' s)
theorem pub_and1 {a : Expr} {b : Bool} (h : PuT X Γ a b) : PuB X Γ (.BoolOp .And [a] pos) b := fun σ H S Q q => wb_of (pw_and1 pt_wt) (h σ H S _ q)
theorem pub_or1 {a : Expr} {b : Bool} (h : PuT X Γ a b) : PuB X Γ (.BoolOp .Or [a] pos) b := fun σ H S Q q => wb_of (pw_or1 pt_wt) (h σ H S _ q)
theorem pub_and {a b : Expr} {rest : List Expr} {c d : Bool} (h : PuT X Γ a c) (h2 : c = true → PuB X Γ (.BoolOp .And (b :: rest) pos) d) : PuB X Γ (.BoolOp .And (a :: b :: rest) pos) (c && d) := fun σ H S Q q =>
  wb_of (pw_and pt_wt pw_wb) (h σ H S _ fun H' s => by
    cases c with
    | true => exact h2 rfl σ H' (S.mono s) _ fun H2 s2 => q H2 (s.trans s2)
    | false => exact q H' s)
theorem pub_or {a b : Expr} {rest : List Expr} {c d : Bool} (h : PuT X Γ a c) (h2 : c = false → PuB X Γ (.BoolOp .Or (b :: rest) pos) d) : PuB X Γ (.BoolOp .Or (a :: b :: rest) pos) (c || d) := fun σ H S Q q =>
  wb_of (pw_or pt_wt pw_wb) (h σ H S _ fun H' s => by
    cases c with
    | false => exact h2 rfl σ H' (S.mono s) _ fun H2 s2 => q H2 (s.trans s2)
    | true => exact q H' s)
theorem PuB.t {e : Expr} {b : Bool} (h : PuB X Γ e b) : PuT X Γ e b := fun σ H S Q q pins s I => h σ H S Q q _ pins s I
/-- as values -/
theorem pu_one {a : Expr} {op : BoolOp} {r : Rs} (h : Pu X Γ a r) : Pu X Γ (.BoolOp op [a] pos) r := fun σ H S Q q => we_of (pe_one pe_we) (h σ H S Q q)
theorem pu_and {a b : Expr} {rest : List Expr} {c d : Bool} (h : Pu X Γ a (.d (.bool c))) (h2 : c = true → Pu X Γ (.BoolOp .And (b :: rest) pos) (.d (.bool d))) : Pu X Γ (.BoolOp .And (a :: b :: rest) pos) (.d (.bool (c && d))) := fun σ H S Q q =>
  we_of (pe_and pe_we pe_we) (h σ H S _ fun v H' s a => by
    cases a
    refine ⟨c, rfl, ?_⟩
    cases c with
    | true => exact h2 rfl σ H' (S.mono s) _ fun v H2 s2 a2 => q v H2 (s.trans s2) a2
    | false => exact q _ H' s (.bl _))
theorem pu_or {a b : Expr} {rest : List Expr} {c d : Bool} (h : Pu X Γ a (.d (.bool c))) (h2 : c = false → Pu X Γ (.BoolOp .Or (b :: rest) pos) (.d (.bool d))) : Pu X Γ (.BoolOp .Or (a :: b :: rest) pos) (.d (.bool (c || d))) := fun σ H S Q q =>
  we_of (pe_or pe_we pe_we) (h σ H S _ fun v H' s a => by
    cases a
    refine ⟨c, rfl, ?_⟩
    cases c with
    | false => exact h2 rfl σ H' (S.mono s) _ fun v H2 s2 a2 => q v H2 (s.trans s2) a2
    | true => exact q _ H' s (.bl _))
theorem pu_not {a : Expr} {c : Bool} (h : Pu X Γ a (.d (.bool c))) : Pu X Γ (.UnaryOp .Not a pos) (.d (.bool (!c))) := fun σ H S Q q =>
  we_of (pe_not pe_we) (h σ H S _ fun v H' s a => by cases a; exact ⟨c, rfl, q _ H' s (.bl _)⟩)
theorem pu_if {c a b : Expr} {k : Bool} {r : Rs} (hc : PuT X Γ c k) (ha : k = true → Pu X Γ a r) (hb : k = false → Pu X Γ b r) : Pu X Γ (.IfExp c a b pos) r := fun σ H S Q q =>
  we_of (pe_ifExp pt_wt pe_we pe_we) (hc σ H S _ fun H' s => by
    cases k with
    | true => exact ha rfl σ H' (S.mono s) _ fun v H2 s2 a2 => q v H2 (s.trans s2) a2
    | false => exact hb rfl σ H' (S.mono s) _ fun v H2 s2 a2 => q v H2 (s.trans s2) a2)
theorem pua_nil : PuA X Γ [] [] := fun σ H S Q q => wa_of pa_nil (q [] H (Same.refl H) .nil)
theorem pua_cons {e : Expr} {es : List Expr} {r : Rs} {rs : List Rs} (h : Pu X Γ e r) (h2 : PuA X Γ es rs) (hs : starEach (e :: es) X.env = (false, eval e X.env) :: starEach es X.env := by rfl) : PuA X Γ (e :: es) (r :: rs) := fun σ H S Q q =>
  wa_of (pa_cons pe_we pa_wa hs) (h σ H S _ fun v H1 s1 a1 => h2 σ H1 (S.mono s1) _ fun vs H2 s2 a2 => q (v :: vs) H2 (s1.trans s2) (.cons (a1.mono s2) a2))
theorem AtAll.im : ∀ {H : Hp} {vs : List V} {ds : List PyData}, AtAll H vs (ds.map Rs.d) → ImAll H vs ds
  | _, _, [], h => by cases h; exact .nil
  | _, _, d :: ds, h => by
    cases h with
    | cons a b => exact .cons a (AtAll.im b)
theorem same_new {H : Hp} {p : Addr} {o : HO} (h : H p = none) : Same H (upd H p o) := fun a u e => by rw [upd_ne (ne_of_none e h)]; exact e
theorem pu_tup {es : List Expr} {ds : List PyData} {k} (h : PuA X Γ es (ds.map Rs.d)) (hl : ds.length ≤ 1000 := by first | decide | simp) : Pu X Γ (.Tuple es k pos) (.d (.tuple ds)) := fun σ H S Q q =>
  we_of (pe_tup pa_wa) (h σ H S _ fun vs H1 s1 a1 => ⟨by rw [(AtAll.im a1).length]; exact Nat.le_trans hl (by decide), fun p hp => q _ _ (s1.trans (same_new hp)) (.tup upd_same ((AtAll.im a1).mono (.new hp)))⟩)
theorem pun_lst {es : List Expr} {ds : List PyData} (h : PuA X Γ es (ds.map Rs.d)) (hl : ds.length ≤ 1000 := by first | decide | simp) : PuN X Γ (.List es pos) ds := fun σ H S Q q =>
  we_of (pe_lst pa_wa) (h σ H S _ fun vs H1 s1 a1 => ⟨by rw [(AtAll.im a1).length]; exact Nat.le_trans hl (by decide), fun p hp => q _ _ (s1.free hp) (s1.trans (same_new hp)) ⟨vs, upd_same, (AtAll.im a1).mono (.new hp)⟩⟩)
end
end K47
/-! K1: rules of the pure judgement. -/
namespace K47
open PySem PySem.Spec PyProof.Rows L2
/-! ### the module's names -/
structure Mg (mg : Str → Option Value) : Prop where
  len : mg "len" = none
  range : mg "range" = none
  sorted : mg "sorted" = none
  tuple : mg "tuple" = none
  list : mg "list" = none
  dict : mg "dict" = none
  all : mg "all" = none
  any : mg "any" = none
  max : mg "max" = none
  min : mg "min" = none
  abs : mg "abs" = none
  int : mg "int" = none
  str : mg "str" = none
  bool : mg "bool" = none
  isinstance : mg "isinstance" = none
  enumerate : mg "enumerate" = none
  zip : mg "zip" = none
  repr : mg "repr" = none
  sm : ∃ t, mg "SIMPLICES_MOST" = some (.int 60 t)
  vm : ∃ t, mg "VERTEX_MOST" = some (.int 11 t)
  vsm : ∃ t, mg "VERTICES_MOST" = some (.int 3 t)
  hm : ∃ t, mg "HEIGHT_MOST" = some (.int 1000 t)
  em : ∃ t, mg "EDITS_MOST" = some (.int 20 t)
/-! ### operations by descriptors -/
theorem rv_I0 {g : Int → Int → V} {i j : Int} {d : PyData} (h : ∀ H, Im H (g i j) d) : RV2 (rI0 g) (.d (.int i)) (.d (.int j)) (.d d) := fun H x y ax ay Q q => by
  cases ax; cases ay
  exact ⟨i, j, rfl, rfl, q _ H (Same.refl H) (h H)⟩
theorem rv_I {C : Int → Int → Prop} {g : Int → Int → V} {i j : Int} {d : PyData} (hc : C i j) (h : ∀ H, Im H (g i j) d) : RV2 (rI C g) (.d (.int i)) (.d (.int j)) (.d d) := fun H x y ax ay Q q => by
  cases ax; cases ay
  exact ⟨i, j, rfl, rfl, hc, q _ H (Same.refl H) (h H)⟩
theorem rv_eqI {i j : Int} : RV2 rEq (.d (.int i)) (.d (.int j)) (.d (.bool (decide (i = j)))) := fun H x y ax ay Q q => by
  cases ax; cases ay
  refine ⟨rfl, ?_⟩
  have e : decide (V.int i = V.int j) = decide (i = j) := by simp
  rw [e]; exact q _ H (Same.refl H) (.bl _)
theorem rv_neI {i j : Int} : RV2 rNe (.d (.int i)) (.d (.int j)) (.d (.bool (!decide (i = j)))) := fun H x y ax ay Q q => by
  cases ax; cases ay
  refine ⟨rfl, ?_⟩
  have e : decide (V.int i = V.int j) = decide (i = j) := by simp
  rw [e]; exact q _ H (Same.refl H) (.bl _)
theorem rv_eqS {i j : Str} : RV2 rEq (.d (.str i)) (.d (.str j)) (.d (.bool (decide (i = j)))) := fun H x y ax ay Q q => by
  cases ax; cases ay
  refine ⟨rfl, ?_⟩
  have e : decide (V.str i = V.str j) = decide (i = j) := by simp
  rw [e]; exact q _ H (Same.refl H) (.bl _)
theorem rv_neS {i j : Str} : RV2 rNe (.d (.str i)) (.d (.str j)) (.d (.bool (!decide (i = j)))) := fun H x y ax ay Q q => by
  cases ax; cases ay
  refine ⟨rfl, ?_⟩
  have e : decide (V.str i = V.str j) = decide (i = j) := by simp
  rw [e]; exact q _ H (Same.refl H) (.bl _)
theorem rv_eqB {i j : Bool} : RV2 rEq (.d (.bool i)) (.d (.bool j)) (.d (.bool (decide (i = j)))) := fun H x y ax ay Q q => by
  cases ax; cases ay
  refine ⟨rfl, ?_⟩
  have e : decide (V.bl i = V.bl j) = decide (i = j) := by simp
  rw [e]; exact q _ H (Same.refl H) (.bl _)
theorem rv_neB {i j : Bool} : RV2 rNe (.d (.bool i)) (.d (.bool j)) (.d (.bool (!decide (i = j)))) := fun H x y ax ay Q q => by
  cases ax; cases ay
  refine ⟨rfl, ?_⟩
  have e : decide (V.bl i = V.bl j) = decide (i = j) := by simp
  rw [e]; exact q _ H (Same.refl H) (.bl _)
def isNon : PyData → Bool
  | .none => true
  | _ => false
theorem im_non {H : Hp} {v : V} {d : PyData} (a : Im H v d) : decide (v = .non) = isNon d := by
  cases a <;> simp [isNon]
section
variable {X : Cx} {Γ : Gm} {pos : Pos} {a b c e : Expr} {i j : Int}
theorem pu_add (ha : Pu X Γ a (.d (.int i))) (hb : Pu X Γ b (.d (.int j))) : Pu X Γ (.BinOp a .Add b pos) (.d (.int (i + j))) := pu_bin op_add (rv_I0 fun _ => .int _) ha hb
theorem pu_sub (ha : Pu X Γ a (.d (.int i))) (hb : Pu X Γ b (.d (.int j))) : Pu X Γ (.BinOp a .Sub b pos) (.d (.int (i - j))) := pu_bin op_sub (rv_I0 fun _ => .int _) ha hb
theorem pu_mul (ha : Pu X Γ a (.d (.int i))) (hb : Pu X Γ b (.d (.int j))) (hc : CMul i j) : Pu X Γ (.BinOp a .Mult b pos) (.d (.int (i * j))) := pu_bin op_mul (rv_I hc fun _ => .int _) ha hb
theorem pu_mod (ha : Pu X Γ a (.d (.int i))) (hb : Pu X Γ b (.d (.int j))) (hc : 0 < j) : Pu X Γ (.BinOp a .Mod b pos) (.d (.int (i % j))) := pu_bin op_mod (rv_I hc fun _ => .int _) ha hb
theorem pu_fdiv (ha : Pu X Γ a (.d (.int i))) (hb : Pu X Γ b (.d (.int j))) (hc : CDiv i j) : Pu X Γ (.BinOp a .FloorDiv b pos) (.d (.int (i / j))) := pu_bin op_fdiv (rv_I hc fun _ => .int _) ha hb
theorem pu_neg (ha : Pu X Γ a (.d (.int i))) : Pu X Γ (.UnaryOp .USub a pos) (.d (.int (-i))) := pu_un un_neg (fun H x ax Q q => by cases ax; exact ⟨i, rfl, q _ H (Same.refl H) (.int _)⟩) ha
theorem rv_lt : RV2 (rI0 fun i j => .bl (decide (i < j))) (.d (.int i)) (.d (.int j)) (.d (.bool (decide (i < j)))) := rv_I0 fun _ => .bl _
theorem rv_le : RV2 (rI0 fun i j => .bl (decide (i ≤ j))) (.d (.int i)) (.d (.int j)) (.d (.bool (decide (i ≤ j)))) := rv_I0 fun _ => .bl _
theorem rv_gt : RV2 (rI0 fun i j => .bl (decide (j < i))) (.d (.int i)) (.d (.int j)) (.d (.bool (decide (j < i)))) := rv_I0 fun _ => .bl _
theorem rv_ge : RV2 (rI0 fun i j => .bl (decide (j ≤ i))) (.d (.int i)) (.d (.int j)) (.d (.bool (decide (j ≤ i)))) := rv_I0 fun _ => .bl _
theorem rv_isN {d : PyData} : RV2 (fun x y H Q => y = .non ∧ Q (.bl (decide (x = .non))) H) (.d d) (.d .none) (.d (.bool (isNon d))) := fun H x y ax ay Q q => by
  cases ay
  refine ⟨rfl, ?_⟩
  rw [im_non ax]; exact q _ H (Same.refl H) (.bl _)
theorem rv_notN {d : PyData} : RV2 (fun x y H Q => y = .non ∧ Q (.bl (!decide (x = .non))) H) (.d d) (.d .none) (.d (.bool (!isNon d))) := fun H x y ax ay Q q => by
  cases ay
  refine ⟨rfl, ?_⟩
  rw [im_non ax]; exact q _ H (Same.refl H) (.bl _)
/-- deep comparisons -/
theorem Im.shp {H : Hp} {K : PySem.W.Frag} {v : V} {d : PyData} (h : Im H v d) : Dp K H v d := h.dp
theorem rv_eqD {K : PySem.W.Frag} {d d' : PyData} (h1 : SeqAt.shaped d = true) (h2 : SeqAt.shaped d' = true) : RV2 (rEqD K) (.d d) (.d d') (.d (.bool (PyData.eqv d d'))) := fun H x y ax ay Q q =>
  ⟨d, d', Im.dp ax, Im.dp ay, h1, h2, q _ H (Same.refl H) (.bl _)⟩
theorem rv_neD {K : PySem.W.Frag} {d d' : PyData} (h1 : SeqAt.shaped d = true) (h2 : SeqAt.shaped d' = true) : RV2 (rNeD K) (.d d) (.d d') (.d (.bool (!PyData.eqv d d'))) := fun H x y ax ay Q q =>
  ⟨d, d', Im.dp ax, Im.dp ay, h1, h2, q _ H (Same.refl H) (.bl _)⟩
theorem rv_eqL {K : PySem.W.Frag} {d d' : List PyData} (h1 : SeqAt.shaped (.list d) = true) (h2 : SeqAt.shaped (.list d') = true) : RV2 (rEqD K) (.l d) (.l d') (.d (.bool (PyData.eqv (.list d) (.list d')))) := fun H x y ax ay Q q => by
  obtain ⟨p, rfl, l1⟩ := ax
  obtain ⟨p', rfl, l2⟩ := ay
  exact ⟨_, _, l1.dp, l2.dp, h1, h2, q _ H (Same.refl H) (.bl _)⟩
theorem rv_neL {K : PySem.W.Frag} {d d' : List PyData} (h1 : SeqAt.shaped (.list d) = true) (h2 : SeqAt.shaped (.list d') = true) : RV2 (rNeD K) (.l d) (.l d') (.d (.bool (!PyData.eqv (.list d) (.list d')))) := fun H x y ax ay Q q => by
  obtain ⟨p, rfl, l1⟩ := ax
  obtain ⟨p', rfl, l2⟩ := ay
  exact ⟨_, _, l1.dp, l2.dp, h1, h2, q _ H (Same.refl H) (.bl _)⟩
theorem rv_inD {K : PySem.W.Frag} {d : PyData} {ds : List PyData} (h1 : SeqAt.shaped d = true) (h2 : SeqAt.shaped (.list ds) = true) : RV2 (rInD K) (.d d) (.l ds) (.d (.bool (ds.any fun z => PyData.eqv z d))) := fun H x y ax ay Q q => by
  obtain ⟨p', rfl, l2⟩ := ay
  exact ⟨_, _, Im.dp ax, l2.dp, h1, h2, q _ H (Same.refl H) (.bl _)⟩
theorem rv_ninD {K : PySem.W.Frag} {d : PyData} {ds : List PyData} (h1 : SeqAt.shaped d = true) (h2 : SeqAt.shaped (.list ds) = true) : RV2 (rNotInD K) (.d d) (.l ds) (.d (.bool (!ds.any fun z => PyData.eqv z d))) := fun H x y ax ay Q q => by
  obtain ⟨p', rfl, l2⟩ := ay
  exact ⟨_, _, Im.dp ax, l2.dp, h1, h2, q _ H (Same.refl H) (.bl _)⟩
/-- ints in a tuple, a list of ints -/
theorem inV_ints {n : Int} : ∀ {ns : List Int}, inV (.int n) (ns.map V.int) = decide (n ∈ ns)
  | [] => rfl
  | m :: r => by
    have ih := inV_ints (n := n) (ns := r)
    unfold inV at ih ⊢
    rw [List.map_cons, List.any_cons, ih]
    have e : eqV (.int m) (.int n) = decide (m = n) := by simp [eqV] <;> rfl
    rw [e]
    by_cases h : m = n
    · subst h; simp
    · have h' : ¬ n = m := fun q => h q.symm
      by_cases h2 : n ∈ r <;> simp [h, h', h2]
theorem flat_ints : ∀ (ns : List Int), (ns.map V.int).all flatV = true
  | [] => rfl
  | _ :: r => by rw [List.map_cons, List.all_cons, flat_ints r]; rfl
theorem rv_inT {K : PySem.W.Frag} {n : Int} {ns : List Int} : RV2 (rIn K false) (.d (.int n)) (.d (.tuple (ns.map .int))) (.d (.bool (decide (n ∈ ns)))) := fun H x y ax ay Q q => by
  cases ax
  obtain ⟨p, rfl, hp⟩ := Im.tup_ints ay
  refine ⟨p, _, rfl, .inr (SqT.of hp), rfl, flat_ints ns, ?_⟩
  have e : inV (.int n) (ns.map V.int) = decide (n ∈ ns) := inV_ints
  show Q (.bl (if false = true then !inV (.int n) (ns.map V.int) else inV (.int n) (ns.map V.int))) H
  rw [if_neg Bool.false_ne_true, e]; exact q _ H (Same.refl H) (.bl _)
theorem rv_ninT {K : PySem.W.Frag} {n : Int} {ns : List Int} : RV2 (rIn K true) (.d (.int n)) (.d (.tuple (ns.map .int))) (.d (.bool (!decide (n ∈ ns)))) := fun H x y ax ay Q q => by
  cases ax
  obtain ⟨p, rfl, hp⟩ := Im.tup_ints ay
  refine ⟨p, _, rfl, .inr (SqT.of hp), rfl, flat_ints ns, ?_⟩
  have e : inV (.int n) (ns.map V.int) = decide (n ∈ ns) := inV_ints
  show Q (.bl (if true = true then !inV (.int n) (ns.map V.int) else inV (.int n) (ns.map V.int))) H
  rw [if_pos rfl, e]; exact q _ H (Same.refl H) (.bl _)
theorem rv_inL {K : PySem.W.Frag} {n : Int} {ns : List Int} : RV2 (rIn K false) (.d (.int n)) (.l (ns.map .int)) (.d (.bool (decide (n ∈ ns)))) := fun H x y ax ay Q q => by
  cases ax
  obtain ⟨p, rfl, hp⟩ := ay
  refine ⟨p, _, rfl, .inl (SqL.of hp.ints), rfl, flat_ints ns, ?_⟩
  have e : inV (.int n) (ns.map V.int) = decide (n ∈ ns) := inV_ints
  show Q (.bl (if false = true then !inV (.int n) (ns.map V.int) else inV (.int n) (ns.map V.int))) H
  rw [if_neg Bool.false_ne_true, e]; exact q _ H (Same.refl H) (.bl _)
theorem rv_ninL {K : PySem.W.Frag} {n : Int} {ns : List Int} : RV2 (rIn K true) (.d (.int n)) (.l (ns.map .int)) (.d (.bool (!decide (n ∈ ns)))) := fun H x y ax ay Q q => by
  cases ax
  obtain ⟨p, rfl, hp⟩ := ay
  refine ⟨p, _, rfl, .inl (SqL.of hp.ints), rfl, flat_ints ns, ?_⟩
  have e : inV (.int n) (ns.map V.int) = decide (n ∈ ns) := inV_ints
  show Q (.bl (if true = true then !inV (.int n) (ns.map V.int) else inV (.int n) (ns.map V.int))) H
  rw [if_pos rfl, e]; exact q _ H (Same.refl H) (.bl _)
/-! ### subscripts, slices, sums -/
theorem atI_im {H : Hp} {vs : List V} {ds : List PyData} {i : Int} {d : PyData} (a : ImAll H vs ds) (h : atI ds i = some d) : ∃ v, atI vs i = some v ∧ Im H v d := by
  unfold atI at h ⊢
  rw [a.length]
  cases q : ixN ds.length i with
  | none => rw [q] at h; cases h
  | some j =>
    rw [q] at h
    exact a.get h
theorem pu_ixT {ds : List PyData} {d : PyData} (ha : Pu X Γ a (.d (.tuple ds))) (hb : Pu X Γ b (.d (.int i))) (h : atI ds i = some d) (hs : PlainIx b := by exact fun _ _ => rfl) : Pu X Γ (.Subscript a b pos) (.d d) := fun σ H S Q q =>
  we_of (pe_ix ix_tup pe_we pe_we hs) (ha σ H S _ fun x H1 s1 a1 => hb σ H1 (S.mono s1) _ fun y H2 s2 a2 => by
    have a1 := a1.mono s2
    cases a2
    cases a1 with
    | tup hp al =>
      obtain ⟨v, h1, h2⟩ := atI_im al h
      exact ⟨_, _, i, v, rfl, rfl, SqT.of hp, h1, q v H2 (s1.trans s2) h2⟩)
theorem pu_ixL {ds : List PyData} {d : PyData} (ha : Pu X Γ a (.l ds)) (hb : Pu X Γ b (.d (.int i))) (h : atI ds i = some d) (hs : PlainIx b := by exact fun _ _ => rfl) : Pu X Γ (.Subscript a b pos) (.d d) := fun σ H S Q q =>
  we_of (pe_ix ix_list pe_we pe_we hs) (ha σ H S _ fun x H1 s1 a1 => hb σ H1 (S.mono s1) _ fun y H2 s2 a2 => by
    obtain ⟨p, rfl, vs, hp, al⟩ := a1.mono s2
    cases a2
    obtain ⟨v, h1, h2⟩ := atI_im al h
    exact ⟨_, _, i, v, rfl, rfl, SqL.of hp, h1, q v H2 (s1.trans s2) h2⟩)
def cutD (ds : List PyData) (lo hi : Option Int) : List PyData := (ds.drop (HT.sIx ds.length 0 lo)).take (HT.sIx ds.length ds.length hi - HT.sIx ds.length 0 lo)
theorem ImAll.cut {H : Hp} {vs : List V} {ds : List PyData} (a : ImAll H vs ds) (lo hi : Option Int) : ImAll H (cutV vs lo hi) (cutD ds lo hi) := by
  unfold cutV cutD
  rw [a.length]
  exact (a.drop _).take _
def PuO (X : Cx) (Γ : Gm) (e : Option Expr) (o : Option Int) : Prop := ∃ t : TO, PO X e t ∧ ∀ (σ : L2.St) (H : Hp), Sl H σ Γ → ∀ Q : Option Int → Hp → Prop, (∀ H', Same H H' → Q o H') → t σ H Q
theorem puo_none : PuO X Γ none none := ⟨_, po_none, fun σ H S Q q => q H (Same.refl H)⟩
theorem puo_some (h : Pu X Γ e (.d (.int i))) : PuO X Γ (some e) (some i) := ⟨_, po_some pe_we, fun σ H S Q q => h σ H S _ fun v H' s av => by cases av; exact ⟨i, rfl, q H' s⟩⟩
theorem pu_slT {ds : List PyData} {lo hi : Option Expr} {l u : Option Int} {p2 : Pos} (ha : Pu X Γ e (.d (.tuple ds))) (hl : PuO X Γ lo l) (hu : PuO X Γ hi u) : Pu X Γ (.Subscript e (.Slice lo hi none p2) pos) (.d (.tuple (cutD ds l u))) := by
  obtain ⟨tl, pl, kl⟩ := hl
  obtain ⟨tu, pu, ku⟩ := hu
  intro σ H S Q q
  refine we_of (pe_slice sl_tupA pe_we pl pu) (ha σ H S _ fun x H1 s1 a1 => kl σ H1 (S.mono s1) _ fun H2 s2 => ku σ H2 (S.mono (s1.trans s2)) _ fun H3 s3 => ?_)
  have a3 := a1.mono (s2.trans s3)
  have s13 := s1.trans (s2.trans s3)
  cases a3 with
  | @tup p xs _ hp al =>
    refine ⟨p, xs, rfl, SqT.of hp, fun hw => ?_, fun hw np hnp => ?_⟩
    · refine q _ H3 s13 (.tup hp ?_)
      have e1 : cutV xs l u = xs := by
        unfold cutV
        rw [hw.1, hw.2]
        simp
      have := al.cut l u
      rw [e1] at this
      exact this
    · exact q _ _ (s13.trans (same_new hnp)) (.tup upd_same ((al.cut l u).mono (.new hnp)))
theorem pun_slL {ds : List PyData} {lo hi : Option Expr} {l u : Option Int} {p2 : Pos} (ha : Pu X Γ e (.l ds)) (hl : PuO X Γ lo l) (hu : PuO X Γ hi u) : PuN X Γ (.Subscript e (.Slice lo hi none p2) pos) (cutD ds l u) := by
  obtain ⟨tl, pl, kl⟩ := hl
  obtain ⟨tu, pu, ku⟩ := hu
  intro σ H S Q q
  refine we_of (pe_slice sl_list pe_we pl pu) (ha σ H S _ fun x H1 s1 a1 => kl σ H1 (S.mono s1) _ fun H2 s2 => ku σ H2 (S.mono (s1.trans s2)) _ fun H3 s3 => ?_)
  obtain ⟨p, rfl, vs, hp, al⟩ := a1.mono (s2.trans s3)
  have s13 := s1.trans (s2.trans s3)
  exact ⟨p, vs, rfl, SqL.of hp, fun np hnp => q np _ (s13.free hnp) (s13.trans (same_new hnp)) ⟨_, upd_same, (al.cut l u).mono (.new hnp)⟩⟩
theorem pun_rev {ds : List PyData} {k : Nat} {p1 p2 p3 : Pos} (ha : Pu X Γ e (.l ds)) : PuN X Γ (.Subscript e (.Slice none none (some (.UnaryOp .USub (.Constant (.int 1) k p1) p2)) p3) pos) ds.reverse := fun σ H S Q q =>
  we_of (pe_revL pe_we) (ha σ H S _ fun x H1 s1 a1 => by
    obtain ⟨p, rfl, vs, hp, al⟩ := a1
    exact ⟨p, vs, rfl, SqL.of hp, fun np hnp => q np _ (s1.free hnp) (s1.trans (same_new hnp)) ⟨_, upd_same, al.reverse.mono (.new hnp)⟩⟩)
theorem pu_catT {ds es : List PyData} (ha : Pu X Γ a (.d (.tuple ds))) (hb : Pu X Γ b (.d (.tuple es))) (hz : ds.length + es.length ≤ 1000) : Pu X Γ (.BinOp a .Add b pos) (.d (.tuple (ds ++ es))) :=
  pu_bin op_catA (fun H x y ax ay Q q => by
    cases ax with
    | @tup p xs _ hp al =>
      cases ay with
      | @tup p' ys _ hp' al' =>
        have l1 := al.length
        have l2 := al'.length
        refine ⟨p, p', xs, ys, rfl, rfl, SqT.of hp, SqT.of hp', Nat.le_trans (by omega) (show 1000 ≤ sizeLine by decide), fun e => ?_, fun _ e => ?_, fun _ _ np hnp => ?_⟩
        · subst e
          cases al
          exact q _ H (Same.refl H) (.tup hp' (by simpa using al'))
        · subst e
          cases al'
          exact q _ H (Same.refl H) (.tup hp (by simpa using al))
        · exact q _ _ (same_new hnp) (.tup upd_same ((al.append al').mono (.new hnp)))) ha hb
theorem pun_catL {ds es : List PyData} (ha : Pu X Γ a (.l ds)) (hb : Pu X Γ b (.l es)) (hz : ds.length + es.length ≤ 100000) : PuN X Γ (.BinOp a .Add b pos) (ds ++ es) := fun σ H S Q q =>
  we_of (pe_op op_cat pe_we pe_we) (ha σ H S _ fun x H1 s1 a1 => hb σ H1 (S.mono s1) _ fun y H2 s2 a2 => by
    obtain ⟨p, rfl, vs, hp, al⟩ := a1.mono s2
    obtain ⟨p', rfl, vs', hp', al'⟩ := a2
    have l1 := al.length
    have l2 := al'.length
    exact ⟨p, p', vs, vs', rfl, rfl, hp, hp', Nat.le_trans (by omega) (show 100000 ≤ sizeLine by decide), fun np hnp => q np _ ((s1.trans s2).free hnp) ((s1.trans s2).trans (same_new hnp)) ⟨_, upd_same, (al.append al').mono (.new hnp)⟩⟩)
/-! ### built-ins -/
theorem pu_cB {id : String} {x : Str} {es : List Expr} {r : List V → Hp → VK → Prop} {ras : List Rs} {rc : Rs} {p : Pos} (hc : CallR X (.builtin id) r) (hm : X.mg x = none) (hv : bootBuiltins x = some (.builtin id)) (h : RVc r ras rc) (ha : PuA X Γ (e :: es) ras) (hg : Gl X x := by rfl)
    (hn : x ≠ "__name__" := by decide) (hdb : (x == ("__debug__" : Str)) = false := by decide) (he : starEach (e :: es) X.env = (false, eval e X.env) :: starEach es X.env := by rfl) (hpl : (backTo pos (starEach es X.env)).any (·.1) = false := by rfl) : Pu X Γ (.Call (.Name x p) (e :: es) [] pos) rc := fun σ H S Q q =>
  we_of (pe_callB hc hg hm hv pa_wa hn hdb he hpl) (ha σ H S _ fun vs H1 s1 a1 => h H1 vs a1 Q fun v H2 s2 a2 => q v H2 (s1.trans s2) a2)
theorem pun_cB {id : String} {x : Str} {es : List Expr} {r : List V → Hp → VK → Prop} {ras : List Rs} {ds : List PyData} {p : Pos} (hc : CallR X (.builtin id) r) (hm : X.mg x = none) (hv : bootBuiltins x = some (.builtin id)) (h : RVn r ras ds) (ha : PuA X Γ (e :: es) ras) (hg : Gl X x := by rfl)
    (hn : x ≠ "__name__" := by decide) (hdb : (x == ("__debug__" : Str)) = false := by decide) (he : starEach (e :: es) X.env = (false, eval e X.env) :: starEach es X.env := by rfl) (hpl : (backTo pos (starEach es X.env)).any (·.1) = false := by rfl) : PuN X Γ (.Call (.Name x p) (e :: es) [] pos) ds := fun σ H S Q q =>
  we_of (pe_callB hc hg hm hv pa_wa hn hdb he hpl) (ha σ H S _ fun vs H1 s1 a1 => h H1 vs a1 Q fun p' H2 n s2 a2 => q p' H2 (s1.free n) (s1.trans s2) a2)
theorem pu_cT {T : String} {x : Str} {es : List Expr} {r : List V → Hp → VK → Prop} {ras : List Rs} {rc : Rs} {p : Pos} (hc : CallR X (.type T) r) (hm : X.mg x = none) (hv : bootBuiltins x = some (.type T)) (h : RVc r ras rc) (ha : PuA X Γ (e :: es) ras) (hg : Gl X x := by rfl)
    (hn : x ≠ "__name__" := by decide) (hdb : (x == ("__debug__" : Str)) = false := by decide) (he : starEach (e :: es) X.env = (false, eval e X.env) :: starEach es X.env := by rfl) (hpl : (backTo pos (starEach es X.env)).any (·.1) = false := by rfl) : Pu X Γ (.Call (.Name x p) (e :: es) [] pos) rc := fun σ H S Q q =>
  we_of (pe_callTy hc hg hm hv pa_wa hn hdb he hpl) (ha σ H S _ fun vs H1 s1 a1 => h H1 vs a1 Q fun v H2 s2 a2 => q v H2 (s1.trans s2) a2)
theorem pun_cT {T : String} {x : Str} {es : List Expr} {r : List V → Hp → VK → Prop} {ras : List Rs} {ds : List PyData} {p : Pos} (hc : CallR X (.type T) r) (hm : X.mg x = none) (hv : bootBuiltins x = some (.type T)) (h : RVn r ras ds) (ha : PuA X Γ (e :: es) ras) (hg : Gl X x := by rfl)
    (hn : x ≠ "__name__" := by decide) (hdb : (x == ("__debug__" : Str)) = false := by decide) (he : starEach (e :: es) X.env = (false, eval e X.env) :: starEach es X.env := by rfl) (hpl : (backTo pos (starEach es X.env)).any (·.1) = false := by rfl) : PuN X Γ (.Call (.Name x p) (e :: es) [] pos) ds := fun σ H S Q q =>
  we_of (pe_callTy hc hg hm hv pa_wa hn hdb he hpl) (ha σ H S _ fun vs H1 s1 a1 => h H1 vs a1 Q fun p' H2 n s2 a2 => q p' H2 (s1.free n) (s1.trans s2) a2)
theorem at1 {H : Hp} {xs : List V} {r : Rs} (h : AtAll H xs [r]) : ∃ v, xs = [v] ∧ At H v r := by
  cases h with
  | cons a b => cases b; exact ⟨_, rfl, a⟩
theorem at2 {H : Hp} {xs : List V} {r r' : Rs} (h : AtAll H xs [r, r']) : ∃ v v', xs = [v, v'] ∧ At H v r ∧ At H v' r' := by
  cases h with
  | cons a b => cases b with
    | cons a' b' => cases b'; exact ⟨_, _, rfl, a, a'⟩
theorem at3 {H : Hp} {xs : List V} {r r' r'' : Rs} (h : AtAll H xs [r, r', r'']) : ∃ v v' v'', xs = [v, v', v''] ∧ At H v r ∧ At H v' r' ∧ At H v'' r'' := by
  cases h with
  | cons a b => obtain ⟨v, v', rfl, h1, h2⟩ := at2 b; exact ⟨_, _, _, rfl, a, h1, h2⟩
variable {p : Pos} (M : Mg X.mg)
include M
theorem pu_lenT {ds : List PyData} (ha : Pu X Γ e (.d (.tuple ds))) (hg : Gl X "len" := by rfl) (he : starEach [e] X.env = [(false, eval e X.env)] := by rfl) : Pu X Γ (.Call (.Name "len" p) [e] [] pos) (.d (.int ds.length)) :=
  pu_cB call_len_seq M.len boot_len (fun H xs ax Q q => by
    obtain ⟨v, rfl, a⟩ := at1 ax
    cases a with
    | tup hp al => exact ⟨_, _, rfl, .inr (SqT.of hp), by rw [al.length]; exact q _ H (Same.refl H) (.int _)⟩) (pua_cons ha pua_nil he) hg (he := he)
theorem pu_lenL {ds : List PyData} (ha : Pu X Γ e (.l ds)) (hg : Gl X "len" := by rfl) (he : starEach [e] X.env = [(false, eval e X.env)] := by rfl) : Pu X Γ (.Call (.Name "len" p) [e] [] pos) (.d (.int ds.length)) :=
  pu_cB call_len_seq M.len boot_len (fun H xs ax Q q => by
    obtain ⟨v, rfl, a, rfl, vs, hp, al⟩ := at1 ax
    exact ⟨_, _, rfl, .inl (SqL.of hp), by rw [al.length]; exact q _ H (Same.refl H) (.int _)⟩) (pua_cons ha pua_nil he) hg (he := he)
theorem pu_tuple {ds : List PyData} (ha : Pu X Γ e (.l ds)) (hg : Gl X "tuple" := by rfl) (he : starEach [e] X.env = [(false, eval e X.env)] := by rfl) : Pu X Γ (.Call (.Name "tuple" p) [e] [] pos) (.d (.tuple ds)) :=
  pu_cT call_tuple_of M.tuple (by decide +kernel) (fun H xs ax Q q => by
    obtain ⟨v, rfl, a, rfl, vs, hp, al⟩ := at1 ax
    exact ⟨_, _, rfl, .inl ⟨SqL.of hp, fun l hl => q _ _ (same_new hl) (.tup upd_same (al.mono (.new hl)))⟩⟩) (pua_cons ha pua_nil he) hg (he := he)
theorem pun_listL {ds : List PyData} (ha : Pu X Γ e (.l ds)) (hg : Gl X "list" := by rfl) (he : starEach [e] X.env = [(false, eval e X.env)] := by rfl) : PuN X Γ (.Call (.Name "list" p) [e] [] pos) ds :=
  pun_cT call_list_of M.list (by decide +kernel) (fun H xs ax Q q => by
    obtain ⟨v, rfl, a, rfl, vs, hp, al⟩ := at1 ax
    exact ⟨_, _, rfl, .inl (SqL.of hp), fun l hl => q l _ hl (same_new hl) ⟨_, upd_same, al.mono (.new hl)⟩⟩) (pua_cons ha pua_nil he) hg (he := he)
theorem pun_listT {ds : List PyData} (ha : Pu X Γ e (.d (.tuple ds))) (hg : Gl X "list" := by rfl) (he : starEach [e] X.env = [(false, eval e X.env)] := by rfl) : PuN X Γ (.Call (.Name "list" p) [e] [] pos) ds :=
  pun_cT call_list_of M.list (by decide +kernel) (fun H xs ax Q q => by
    obtain ⟨v, rfl, a⟩ := at1 ax
    cases a with
    | tup hp al => exact ⟨_, _, rfl, .inr (SqT.of hp), fun l hl => q l _ hl (same_new hl) ⟨_, upd_same, al.mono (.new hl)⟩⟩) (pua_cons ha pua_nil he) hg (he := he)
theorem pu_all {bs : List Bool} (hc : X.calm = true) (ha : Pu X Γ e (.l (bs.map .bool))) (hg : Gl X "all" := by rfl) (he : starEach [e] X.env = [(false, eval e X.env)] := by rfl) : Pu X Γ (.Call (.Name "all" p) [e] [] pos) (.d (.bool (bs.all id))) :=
  pu_cB (cr_all hc) M.all (by decide +kernel) (fun H xs ax Q q => by
    obtain ⟨v, rfl, a, rfl, vs, hp, al⟩ := at1 ax
    rw [al.of_bools] at hp
    exact ⟨_, bs, rfl, SqL.of hp, q _ H (Same.refl H) (.bl _)⟩) (pua_cons ha pua_nil he) hg (he := he)
theorem pu_any {bs : List Bool} (hc : X.calm = true) (ha : Pu X Γ e (.l (bs.map .bool))) (hg : Gl X "any" := by rfl) (he : starEach [e] X.env = [(false, eval e X.env)] := by rfl) : Pu X Γ (.Call (.Name "any" p) [e] [] pos) (.d (.bool (bs.any id))) :=
  pu_cB (cr_any hc) M.any (by decide +kernel) (fun H xs ax Q q => by
    obtain ⟨v, rfl, a, rfl, vs, hp, al⟩ := at1 ax
    rw [al.of_bools] at hp
    exact ⟨_, bs, rfl, SqL.of hp, q _ H (Same.refl H) (.bl _)⟩) (pua_cons ha pua_nil he) hg (he := he)
theorem pu_max {ns : List Int} {m : Int} (hc : X.calm = true) (ha : Pu X Γ e (.l (ns.map .int))) (h1 : m ∈ ns) (h2 : ∀ y ∈ ns, y ≤ m) (hg : Gl X "max" := by rfl) (he : starEach [e] X.env = [(false, eval e X.env)] := by rfl) : Pu X Γ (.Call (.Name "max" p) [e] [] pos) (.d (.int m)) :=
  pu_cB (cr_max hc) M.max (by decide +kernel) (fun H xs ax Q q => by
    obtain ⟨v, rfl, a, rfl, hp⟩ := at1 ax
    refine ⟨_, ns, rfl, SqL.of hp.ints, List.length_pos_of_mem h1, fun m' g1 g2 => ?_⟩
    have e : m' = m := Int.le_antisymm (h2 _ g1) (g2 _ h1)
    subst e
    exact q _ H (Same.refl H) (.int _)) (pua_cons ha pua_nil he) hg (he := he)
theorem pu_min {ns : List Int} {m : Int} (hc : X.calm = true) (ha : Pu X Γ e (.l (ns.map .int))) (h1 : m ∈ ns) (h2 : ∀ y ∈ ns, m ≤ y) (hg : Gl X "min" := by rfl) (he : starEach [e] X.env = [(false, eval e X.env)] := by rfl) : Pu X Γ (.Call (.Name "min" p) [e] [] pos) (.d (.int m)) :=
  pu_cB (cr_min hc) M.min (by decide +kernel) (fun H xs ax Q q => by
    obtain ⟨v, rfl, a, rfl, hp⟩ := at1 ax
    refine ⟨_, ns, rfl, SqL.of hp.ints, List.length_pos_of_mem h1, fun m' g1 g2 => ?_⟩
    have e : m' = m := Int.le_antisymm (g2 _ h1) (h2 _ g1)
    subst e
    exact q _ H (Same.refl H) (.int _)) (pua_cons ha pua_nil he) hg (he := he)
theorem pun_sortedI {ns ms : List Int} (ha : Pu X Γ e (.l (ns.map .int))) (h : ∀ ns' : List Int, ns'.Perm ns → ns'.Pairwise (· ≤ ·) → ns' = ms) (hg : Gl X "sorted" := by rfl) (he : starEach [e] X.env = [(false, eval e X.env)] := by rfl) : PuN X Γ (.Call (.Name "sorted" p) [e] [] pos) (ms.map .int) :=
  pun_cB cr_sortedI M.sorted (by decide +kernel) (fun H xs ax Q q => by
    obtain ⟨v, rfl, a, rfl, hp⟩ := at1 ax
    refine ⟨_, ns, rfl, SqL.of hp.ints, fun ns' np h1 h2 hnp => ?_⟩
    rw [h ns' h1 h2]
    exact q np _ hnp (same_new hnp) (Ls.of_ints upd_same)) (pua_cons ha pua_nil he) hg (he := he)
end
end K47
/-! K2: comprehensions, calls of defs, pure bodies. -/
namespace K47
open PySem PySem.Spec PyProof.Rows L2
/-! ### targets -/
/-- g stores the datum d: the slots behind it, only those of vs are touched -/
def GD (g : TG) (vs : List Nat) (d : PyData) (Γ Γ' : Gm) : Prop := ∀ (v : V) (σ : L2.St) (H : Hp), Im H v d → Sl H σ Γ → ∀ Q : L2.St → Hp → Prop, (∀ σ', Sl H σ' Γ' → wipe σ' vs = wipe σ vs → Q σ' H) → g v σ H Q
theorem wipe_set {σ : L2.St} {i : Nat} {x : Option V} : ∀ {vs : List Nat}, i ∈ vs → wipe (σ.set i x) vs = wipe σ vs
  | [], h => by simp at h
  | v :: vs, h => by
    unfold wipe
    by_cases hv : i ∈ vs
    · rw [wipe_set hv]
    · have e : i = v := by simpa [hv] using h
      subst e
      have c : ∀ ws : List Nat, i ∉ ws → wipe (σ.set i x) ws = (wipe σ ws).set i x := by
        intro ws
        induction ws with
        | nil => intro _; rfl
        | cons w ws ih =>
          intro hn
          simp only [List.mem_cons, not_or] at hn
          unfold wipe
          rw [ih hn.2, List.set_comm _ _ hn.1]
      rw [c vs hv, List.set_set]
theorem gd_name {i : Nat} {vs : List Nat} {d : PyData} {Γ : Gm} (hi : i ∈ vs) : GD (gName i) vs d Γ (Γ.set i (some (.d d))) := fun v σ H a S Q q => q _ (S.set i a) (wipe_set hi)
theorem gd_any {i : Nat} {vs : List Nat} {d : PyData} {Γ : Gm} (hi : i ∈ vs) : GD (gName i) vs d Γ (Γ.set i none) := fun v σ H a S Q q => q _ (S.set0 i) (wipe_set hi)
theorem wipe_wipe (σ : L2.St) (vs : List Nat) : L2.wipe (L2.wipe σ vs) vs = L2.wipe σ vs := by
  have h : ∀ (ws us : List Nat), (∀ w ∈ us, w ∈ ws) → ∀ τ : L2.St, L2.wipe (L2.wipe τ us) ws = L2.wipe τ ws := by
    intro ws us
    induction us with
    | nil => intro _ τ; rfl
    | cons u us ih =>
      intro hm τ
      show L2.wipe ((L2.wipe τ us).set u none) ws = _
      rw [wipe_set (hm u (by simp))]
      exact ih (fun w hw => hm w (by simp [hw])) τ
  exact h vs vs (fun _ h => h) σ
/-- (a, b, ..) = a tuple -/
def GDs (t : TGs) (vs : List Nat) (ds : List PyData) (Γ Γ' : Gm) : Prop := ∀ (xs : List V) (σ : L2.St) (H : Hp), ImAll H xs ds → Sl H σ Γ → ∀ Q : L2.St → Hp → Prop, (∀ σ', Sl H σ' Γ' → wipe σ' vs = wipe σ vs → Q σ' H) → t xs σ H Q
theorem gds_nil {vs : List Nat} {Γ : Gm} : GDs gNil vs [] Γ Γ := fun xs σ H a S Q q => by cases a; exact ⟨rfl, q σ S rfl⟩
theorem gds_cons {g : TG} {t : TGs} {vs : List Nat} {d : PyData} {ds : List PyData} {Γ Γ1 Γ2 : Gm} (h : GD g vs d Γ Γ1) (h2 : GDs t vs ds Γ1 Γ2) : GDs (gCons g t) vs (d :: ds) Γ Γ2 := fun xs σ H a S Q q => by
  cases a with
  | cons a b => exact ⟨_, _, rfl, h _ σ H a S _ fun σ1 S1 w1 => h2 _ σ1 H b S1 _ fun σ2 S2 w2 => q σ2 S2 (w2.trans w1)⟩
theorem gd_tup {K : PySem.W.Frag} {n : Nat} {t : TGs} {vs : List Nat} {ds : List PyData} {Γ Γ' : Gm} (h : GDs t vs ds Γ Γ') (hn : ds.length = n) : GD (gTup K n t) vs (.tuple ds) Γ Γ' := fun v σ H a S Q q => by
  cases a with
  | tup hp al => exact ⟨_, _, rfl, SqT.of hp, by rw [al.length, hn], h _ σ H al S Q q⟩
/-! ### what is walked -/
def WalkAt (wi : TI) (σ : L2.St) (H : Hp) (ds : List PyData) : Prop := ∀ R : It → Hp → Prop,
  (∀ (J : It) (H1 : Hp) (G : Hp → Prop) (Y : Nat → Hp → V → Hp → Prop), Same H H1 → Walk J ds.length G Y → (∀ H2, Same H1 H2 → G H2) →
    (∀ (i : Nat) (H2 : Hp) (x : V) (H3 : Hp), i < ds.length → Same H1 H2 → Y i H2 x H3 → Same H2 H3 ∧ ∃ d, ds[i]? = some d ∧ Im H3 x d) → R J H1) → wi σ H R
def Src (X : Cx) (Γ : Gm) (tg iter : Expr) (ds : List PyData) : Prop := ∃ wi : TI, PI X tg iter wi ∧ ∀ (σ : L2.St) (H : Hp), Sl H σ Γ → WalkAt wi σ H ds
section
variable {X : Cx} {Γ : Gm} {tg e : Expr} {pos p : Pos}
theorem Src.to {ds ds' : List PyData} (h : Src X Γ tg e ds) (q : ds = ds') : Src X Γ tg e ds' := q ▸ h
theorem src_list {ds : List PyData} (h : Pu X Γ e (.l ds)) : Src X Γ tg e ds := ⟨_, pi_list pe_we, fun σ H S R r => h σ H S _ fun v H1 s a => by
  obtain ⟨p, rfl, vs, hp, al⟩ := a
  refine ⟨p, rfl, ⟨vs, SqL.of hp⟩, r _ H1 (fun H2 => SqL X.K H2 p vs) (YAt vs) s (by rw [← al.length]; exact walk_list) (fun H2 s2 => SqL.of (s2 _ _ hp)) fun i H2 x H3 hi s2 y => ?_⟩
  obtain ⟨e1, e2⟩ := y
  subst e1
  obtain ⟨d, h1, h2⟩ := al.get' e2
  exact ⟨Same.refl _, d, h1, h2.mono (.of s2)⟩⟩
theorem src_tup {ds : List PyData} (h : Pu X Γ e (.d (.tuple ds))) : Src X Γ tg e ds := ⟨_, pi_tup pe_we, fun σ H S R r => h σ H S _ fun v H1 s a => by
  cases a with
  | @tup p vs _ hp al =>
    refine ⟨p, rfl, ⟨vs, SqT.of hp⟩, r _ H1 (fun H2 => SqT X.K H2 p vs) (YAt vs) s (by rw [← al.length]; exact walk_tup) (fun H2 s2 => SqT.of (s2 _ _ hp)) fun i H2 x H3 hi s2 y => ?_⟩
    obtain ⟨e1, e2⟩ := y
    subst e1
    obtain ⟨d, h1, h2⟩ := al.get' e2
    exact ⟨Same.refl _, d, h1, h2.mono (.of s2)⟩⟩
def rngD (lo : Int) (n : Nat) : List PyData := (List.range n).map fun i => .int (lo + (i : Nat))
theorem rngD_len {lo : Int} {n : Nat} : (rngD lo n).length = n := by simp [rngD]
theorem rngD_at {lo : Int} {n i : Nat} (h : i < n) : (rngD lo n)[i]? = some (.int (lo + (i : Nat))) := by simp [rngD, h]
theorem src_rng1 {j : Int} (M : Mg X.mg) (h : Pu X Γ e (.d (.int j))) (hj : -(2 ^ 62) ≤ j ∧ j < 2 ^ 62) (hg : Gl X "range" := by rfl) (hs : starEach [e] X.env = [(false, eval e X.env)] := by rfl) : Src X Γ tg (.Call (.Name "range" p) [e] [] pos) (rngD 0 j.toNat) :=
  ⟨_, pi_range1 hg M.range pa_wa hs, fun σ H S R r => pua_cons h pua_nil hs σ H S _ fun vs H1 s a => by
    obtain ⟨v, rfl, b⟩ := at1 a
    cases b
    refine ⟨j, rfl, hj.1, hj.2, r _ H1 (fun _ => True) (YFn fun i => .int (0 + (i : Nat))) s (by rw [rngD_len]; exact walk_range) (fun _ _ => trivial) fun i H2 x H3 hi s2 y => ?_⟩
    rw [rngD_len] at hi
    obtain ⟨e1, e2⟩ := y
    subst e1 e2
    exact ⟨Same.refl _, _, rngD_at hi, .int _⟩⟩
theorem src_rng2 {a b : Expr} {i j : Int} (M : Mg X.mg) (h : Pu X Γ a (.d (.int i))) (h2 : Pu X Γ b (.d (.int j))) (hj : -(2 ^ 62) ≤ i ∧ i < 2 ^ 62 ∧ -(2 ^ 62) ≤ j ∧ j < 2 ^ 62) (hg : Gl X "range" := by rfl)
    (hs : starEach [a, b] X.env = [(false, eval a X.env), (false, eval b X.env)] := by rfl) (hs2 : starEach [b] X.env = [(false, eval b X.env)] := by rfl) : Src X Γ tg (.Call (.Name "range" p) [a, b] [] pos) (rngD i (j - i).toNat) :=
  ⟨_, pi_range2 hg M.range pa_wa hs hs2, fun σ H S R r => pua_cons h (pua_cons h2 pua_nil hs2) (by rw [hs, hs2]) σ H S _ fun vs H1 s a => by
    obtain ⟨v, w, rfl, a1, a2⟩ := at2 a
    cases a1; cases a2
    refine ⟨i, j, rfl, hj, r _ H1 (fun _ => True) (YFn fun k => .int (i + (k : Nat))) s (by rw [rngD_len]; exact walk_range) (fun _ _ => trivial) fun k H2 x H3 hi s2 y => ?_⟩
    rw [rngD_len] at hi
    obtain ⟨e1, e2⟩ := y
    subst e1 e2
    exact ⟨Same.refl _, _, rngD_at hi, .int _⟩⟩
theorem src_enum {ds : List PyData} {elts : List Expr} {kk : Nat} {tpos : Pos} (M : Mg X.mg) (h : Pu X Γ e (.l ds)) (hg : Gl X "enumerate" := by rfl) (hs : starEach [e] X.env = [(false, eval e X.env)] := by rfl) :
    Src X Γ (.Tuple elts kk tpos) (.Call (.Name "enumerate" p) [e] [] pos) (ds.zipIdx.map fun q => .tuple [.int (q.2 : Nat), q.1]) :=
  ⟨_, pi_enum hg M.enumerate pa_wa hs, fun σ H S R r => pua_cons h pua_nil hs σ H S _ fun vs H1 s a => by
    obtain ⟨v, rfl, p', rfl, xs, hp, al⟩ := at1 a
    have hl := al.length
    refine ⟨p', xs, rfl, SqL.of hp, r _ H1 (fun H2 => SqL X.K H2 p' xs) (YPair (fun i => some (.int (i : Nat))) (fun i => xs[i]?)) s (by simp only [List.length_map, List.length_zipIdx]; rw [← hl]; exact walk_enum) (fun H2 s2 => SqL.of (s2 _ _ hp)) fun i H2 x H3 hi s2 y => ?_⟩
    obtain ⟨T, x1, x2, rfl, hT, rfl, e1, e2⟩ := y
    have e1 : x1 = .int (i : Nat) := (Option.some.inj e1).symm
    subst e1
    obtain ⟨d, h1, h2⟩ := al.get' e2
    refine ⟨same_new hT, .tuple [.int (i : Nat), d], by simp [h1], .tup upd_same (.cons (.int _) (.cons ((h2.mono (.of s2)).mono (.new hT)) .nil))⟩⟩
end
/-! ### list comprehensions -/
theorem Sl.wipe {H : Hp} {σ : L2.St} {Γ : Gm} {vs : List Nat} (S : Sl H σ Γ) (hv : ∀ i ∈ vs, ∀ r, Γ[i]? ≠ some (some r)) : Sl H (wipe σ vs) Γ :=
  ⟨by rw [wipe_length]; exact S.len, fun i r e => by
    obtain ⟨v, h1, h2⟩ := S.at_ i r e
    exact ⟨v, by rw [wipe_out fun m => hv i m r e]; exact h1, h2⟩⟩
/-- the tests of a clause -/
inductive PuTs (X : Cx) (Γ : Gm) : List Expr → Bool → Prop
  | nil : PuTs X Γ [] true
  | one {c : Expr} {b : Bool} : PuT X Γ c b → PuTs X Γ [c] b
def WTs (X : Cx) (ifs : List Expr) : TT := fun σ H Q => ∀ (pins : List (Addr × Obj)) (s : Shared), Inv X pins σ H s →
    wpAny (model X.prog X.w) X.A (forIn ifs true fun c r => if r = true then do let ok ← isTrue c X.env (eval c X.env); pure (ForInStep.yield ok) else pure (ForInStep.yield r)) (TP X pins σ Q) X.xe s
theorem PuTs.wts {X : Cx} {Γ : Gm} {ifs : List Expr} {b : Bool} (h : PuTs X Γ ifs b) (σ : L2.St) (H : Hp) (S : Sl H σ Γ) (Q : Bool → Hp → Prop) (q : ∀ H', Same H H' → Q b H') : WTs X ifs σ H Q := by
  cases h with
  | nil => exact fun pins s I => pts_nil.run pins s σ H Q I (q H (Same.refl H))
  | one h => exact fun pins s I => (pts_one pt_wt).run pins s σ H Q I (h σ H S Q q)
section
variable {X : Cx} {Γ : Gm} {tg iter elt : Expr} {ifs : List Expr} {scope : Scope} {pos : Pos} {α : Type}
/-- the comprehension's block -/
abbrev Blk (X : Cx) (scope : Scope) (s : Shared) (H : Hp) (C : Addr) (cl : List (Str × Addr)) (fp : List Addr) : Cx := X.blk s H scope (compEnvC scope cl C X.env) fp
/-- the comprehension's tests and elements, whatever block runs -/
abbrev ttOf (X : Cx) (scope : Scope) (ifs : List Expr) : TT := fun σ H Q => ∀ (s0 : Shared) (H0 : Hp) (C : Addr) (cl : List (Str × Addr)) (fp : List Addr), WTs (Blk X scope s0 H0 C cl fp) ifs σ H Q
abbrev teOf (X : Cx) (scope : Scope) (elt : Expr) : TE := fun σ H Q => ∀ (s0 : Shared) (H0 : Hp) (C : Addr) (cl : List (Str × Addr)) (fp : List Addr), WE (Blk X scope s0 H0 C cl fp) elt σ H Q
theorem pe_lcOf {own : List (Str × Nat)} {g : TG} {wi : TI} (hc : X.calm = true) (hN : X.N.Nodup) (hi : PI X tg iter wi) (hok : BlkOk X.N X.env.scope scope own) (hg : ∀ s H C cl fp, PG (Blk X scope s H C cl fp) tg g)
    (hs : ∀ x, foldedSetIterable iter X.env x = pure x := by intro _; rfl) : PE X (.ListComp elt [⟨tg, iter, ifs, 0⟩] scope pos) (tLc wi g (ttOf X scope ifs) (teOf X scope elt) (own.map (·.2))) :=
  pe_lc hc hN hi hok hg (fun s H C cl fp => ⟨fun pins s' σ H' Q I h => h s H C cl fp pins s' I⟩) (fun s H C cl fp => ⟨fun pins s' σ H' Q I h => h s H C cl fp pins s' I⟩) hs
theorem lc_go {xs : List α} {enc : α → PyData} {own : List (Str × Nat)} {g : TG} {wi : TI} {σ : L2.St} {H : Hp} {Q : VK} (pr : α → Bool) (f : α → PyData) (γ : α → Gm) (hw : WalkAt wi σ H (xs.map enc)) (hz : xs.length ≤ 100000) (S : Sl H σ Γ)
    (hv : ∀ i ∈ own.map (·.2), ∀ r, Γ[i]? ≠ some (some r)) (hgd : ∀ x ∈ xs, GD g (own.map (·.2)) (enc x) Γ (γ x))
    (ht : ∀ x ∈ xs, ∀ s H C cl fp, PuTs (Blk X scope s H C cl fp) (γ x) ifs (pr x)) (he : ∀ x ∈ xs, pr x = true → ∀ s H C cl fp, Pu (Blk X scope s H C cl fp) (γ x) elt (.d (f x)))
    (q : ∀ p H', H p = none → Same H H' → Ls H' p ((xs.filter pr).map f) → Q (.ref p) H') : tLc wi g (ttOf X scope ifs) (teOf X scope elt) (own.map (·.2)) σ H Q := by
  refine hw _ fun J H1 G Y s1 wk hG hY D hD => ?_
  have S1 := S.mono s1
  refine lc_it (g := g) (tt := ttOf X scope ifs) (te := teOf X scope elt) (vs := own.map (·.2)) (σ := σ) (H1 := H1) (D := D) (Qd := fun H => Q (.ref D) H) wk (fun i H' => Same H1 H' ∧ H1 D = none ∧ Ls H' D (((xs.take i).filter pr).map f)) ⟨same_new hD, hD, [], upd_same, .nil⟩ (fun i H' _ p => hG H' p.1) ?_ ?_
  · intro i x H2 H3 hi ⟨s2, _, vs, hvs, al⟩ y
    obtain ⟨s3, d, hd, im⟩ := hY i H2 x H3 hi s2 y
    rw [List.length_map] at hi
    rw [List.getElem?_map, List.getElem?_eq_getElem hi] at hd
    have hd : enc xs[i] = d := Option.some.inj hd
    subst hd
    have hm : xs[i] ∈ xs := List.getElem_mem hi
    refine hgd _ hm x _ H3 im ((S1.mono (s2.trans s3)).wipe hv) _ fun σ2 S2 w2 => ⟨by rw [w2]; exact wipe_wipe σ _, ?_⟩
    intro s0 H0 C cl fp
    refine (ht _ hm s0 H0 C cl fp).wts σ2 H3 S2 _ fun H4 s4 => ?_
    have et : (xs.take (i + 1)).filter pr = (xs.take i).filter pr ++ (if pr xs[i] = true then [xs[i]] else []) := by
      rw [List.take_succ_eq_append_getElem hi, List.filter_append]
      congr 1
      by_cases hp : pr xs[i] = true <;> simp [hp]
    cases hp : pr xs[i] with
    | true =>
      rw [if_pos rfl]
      intro s0 H0 C cl fp
      refine he _ hm hp s0 H0 C cl fp σ2 H4 (S2.mono s4) _ fun v H5 s5 a5 => ?_
      have s25 : Same H2 H5 := s3.trans (s4.trans s5)
      have hD5 := s25 _ _ hvs
      have hl : vs.length ≤ 100000 := by
        rw [al.length, List.length_map]
        have h1 := List.length_filter_le pr (xs.take i)
        have h2 := List.length_take_le i xs
        have h3 : (xs.take i).length ≤ xs.length := by rw [List.length_take]; omega
        omega
      have tx : Tx H5 (upd H5 D (.lst (vs ++ [v]))) := .mut hD5 fun _ z => by cases z
      refine ⟨vs, hD5, Nat.lt_of_le_of_lt hl (by decide), fun a o e => ?_, hD, vs ++ [v], upd_same, ?_⟩
      · rw [upd_ne (ne_of_none e hD)]; exact (s2.trans s25) a o e
      · rw [et, hp, if_pos rfl, List.map_append]
        exact ((al.mono (.of s25)).append (.cons a5 .nil)).mono tx
    | false =>
      rw [if_neg Bool.false_ne_true]
      refine ⟨s2.trans (s3.trans s4), hD, vs, (s3.trans s4) _ _ hvs, ?_⟩
      rw [et, hp, if_neg Bool.false_ne_true, List.append_nil]
      exact al.mono (.of (s3.trans s4))
  · intro H' ⟨s2, _, ls⟩
    rw [List.length_map, List.take_length] at ls
    exact q D H' (s1.free hD) (s1.trans s2) ls
theorem pun_lc {xs : List α} {enc : α → PyData} {own : List (Str × Nat)} {g : TG} (pr : α → Bool) (f : α → PyData) (γ : α → Gm) (hc : X.calm = true) (hN : X.N.Nodup) (hsrc : Src X Γ tg iter (xs.map enc)) (hz : xs.length ≤ 100000) (hok : BlkOk X.N X.env.scope scope own)
    (hv : ∀ i ∈ own.map (·.2), ∀ r, Γ[i]? ≠ some (some r))
    (hg : ∀ s H C cl fp, PG (Blk X scope s H C cl fp) tg g) (hgd : ∀ x ∈ xs, GD g (own.map (·.2)) (enc x) Γ (γ x))
    (ht : ∀ x ∈ xs, ∀ s H C cl fp, PuTs (Blk X scope s H C cl fp) (γ x) ifs (pr x)) (he : ∀ x ∈ xs, pr x = true → ∀ s H C cl fp, Pu (Blk X scope s H C cl fp) (γ x) elt (.d (f x)))
    (hs : ∀ x, foldedSetIterable iter X.env x = pure x := by intro _; rfl) :
    PuN X Γ (.ListComp elt [⟨tg, iter, ifs, 0⟩] scope pos) ((xs.filter pr).map f) := by
  obtain ⟨wi, hi, hw⟩ := hsrc
  intro σ H S Q q
  exact we_of (pe_lcOf hc hN hi hok hg hs) (lc_go pr f γ (hw σ H S) hz S hv hgd ht he q)
end
/-! ### calls of pure defs -/
/-- a pure def that hands back a described value; a new list -/
def spU (R : List Rs → Rs → Prop) : Sp := fun vs H Q _ => ∃ as r, AtAll H vs as ∧ R as r ∧ ∀ v H', Same H H' → At H' v r → Q v H'
def spN (R : List Rs → List PyData → Prop) : Sp := fun vs H Q _ => ∃ as r, AtAll H vs as ∧ R as r ∧ ∀ p H', H p = none → Same H H' → Ls H' p r → Q (.ref p) H'
section
variable {X : Cx} {Γ : Gm} {x : Str} {f : Addr} {fd : FuncData} {ps : List Str} {k : Nat} {es : List Expr} {e : Expr} {pos p : Pos} {as : List Rs}
/-- what is known of a def: where it stands, its promise -/
structure Df (X : Cx) (x : Str) (k : Nat) (sp : Sp) : Prop where
  ex : ∃ (f : Addr) (fd : FuncData) (ps : List Str), FnOk X.prog X.w X.K X.mg X.base CX0 k f fd ps sp ∧ X.mg x = some (.ref f) ∧ PySem.W.keepIn X.K (.ref f) = true ∧ Binds X.K fd ps []
theorem pu_call {R : List Rs → Rs → Prop} {r : Rs} (D : Df X x k (spU R)) (hr : Room k X.A) (ha : PuA X Γ (e :: es) as) (h : R as r) (hg : Gl X x := by rfl)
    (hdb : (x == ("__debug__" : Str)) = false := by decide) (he : starEach (e :: es) X.env = (false, eval e X.env) :: starEach es X.env := by rfl) (hpl : (backTo pos (starEach es X.env)).any (·.1) = false := by rfl) : Pu X Γ (.Call (.Name x p) (e :: es) [] pos) r := fun σ H S Q q => by
  obtain ⟨f, fd, ps, F, hm, hk, hb⟩ := D.ex
  exact we_of (pe_call F hr hg hm hk hb .nil pass0 pa_wa hdb he hpl) (ha σ H S _ fun vs H1 s1 a1 => by
    rw [List.append_nil]
    exact ⟨as, r, a1, h, fun v H2 s2 a2 => q v H2 (s1.trans s2) a2⟩)
theorem pun_call {R : List Rs → List PyData → Prop} {r : List PyData} (D : Df X x k (spN R)) (hr : Room k X.A) (ha : PuA X Γ (e :: es) as) (h : R as r) (hg : Gl X x := by rfl)
    (hdb : (x == ("__debug__" : Str)) = false := by decide) (he : starEach (e :: es) X.env = (false, eval e X.env) :: starEach es X.env := by rfl) (hpl : (backTo pos (starEach es X.env)).any (·.1) = false := by rfl) : PuN X Γ (.Call (.Name x p) (e :: es) [] pos) r := fun σ H S Q q => by
  obtain ⟨f, fd, ps, F, hm, hk, hb⟩ := D.ex
  exact we_of (pe_call F hr hg hm hk hb .nil pass0 pa_wa hdb he hpl) (ha σ H S _ fun vs H1 s1 a1 => by
    rw [List.append_nil]
    exact ⟨as, r, a1, h, fun v H2 n s2 a2 => q v H2 (s1.free n) (s1.trans s2) a2⟩)
end
/-! ### pure bodies -/
section
variable (X : Cx) (Γ : Gm)
/-- the block hands back r -/
def Go (sts : List Stmt) (r : Rs) : Prop := ∀ (σ : L2.St) (H : Hp), Sl H σ Γ → ∀ D : Ends, (∀ v H', Same H H' → At H' v r → D.rt v H') → WSs X sts D σ H
def GoN (sts : List Stmt) (ds : List PyData) : Prop := ∀ (σ : L2.St) (H : Hp), Sl H σ Γ → ∀ D : Ends, (∀ p H', H p = none → Same H H' → Ls H' p ds → D.rt (.ref p) H') → WSs X sts D σ H
end
section
variable {X : Cx} {Γ : Gm} {sts body : List Stmt} {e c : Expr} {pos pos' : Pos} {r : Rs} {ds : List PyData} {x : Str}
theorem go_ret (h : Pu X Γ e r) : Go X Γ [.Return (some e) pos] r := fun σ H S D q => wss_of (pss_one (ps_ret pe_we)) (h σ H S _ q)
theorem gon_ret (h : PuN X Γ e ds) : GoN X Γ [.Return (some e) pos] ds := fun σ H S D q => wss_of (pss_one (ps_ret pe_we)) (h σ H S _ q)
theorem go_ret' {rest : List Stmt} (h : Pu X Γ e r) : Go X Γ (.Return (some e) pos :: rest) r := fun σ H S D q => wss_of (pss_cons (ps_ret pe_we) pss_wss) (h σ H S _ q)
theorem gon_ret' {rest : List Stmt} (h : PuN X Γ e ds) : GoN X Γ (.Return (some e) pos :: rest) ds := fun σ H S D q => wss_of (pss_cons (ps_ret pe_we) pss_wss) (h σ H S _ q)
theorem go_set (i : Nat) {ra : Rs} (hN : X.N.Nodup) (h : Pu X Γ e ra) (h2 : Go X (Γ.set i (some ra)) sts r) (hi : X.N[i]? = some x := by rfl) (hx : Loc X.env.scope x := by first | exact Or.inl rfl | exact Or.inr rfl) (hs : swapsWith e (some (.Name x pos')) pos.line X.env = pure false := by rfl)
    (hf : X.fn x = true ∨ X.env.scope.names.lookup x = some .local := by first | exact .inl rfl | exact .inr rfl) : Go X Γ (.Assign [.Name x pos'] e pos :: sts) r := fun σ H S D q =>
  wss_of (pss_cons (ps_set hN hi hx pe_we hs hf) pss_wss) (h σ H S _ fun v H1 s1 a1 => h2 _ H1 ((S.mono s1).set i a1) D fun w H2 s2 a2 => q w H2 (s1.trans s2) a2)
theorem gon_set (i : Nat) {ra : Rs} (hN : X.N.Nodup) (h : Pu X Γ e ra) (h2 : GoN X (Γ.set i (some ra)) sts ds) (hi : X.N[i]? = some x := by rfl) (hx : Loc X.env.scope x := by first | exact Or.inl rfl | exact Or.inr rfl) (hs : swapsWith e (some (.Name x pos')) pos.line X.env = pure false := by rfl)
    (hf : X.fn x = true ∨ X.env.scope.names.lookup x = some .local := by first | exact .inl rfl | exact .inr rfl) : GoN X Γ (.Assign [.Name x pos'] e pos :: sts) ds := fun σ H S D q =>
  wss_of (pss_cons (ps_set hN hi hx pe_we hs hf) pss_wss) (h σ H S _ fun v H1 s1 a1 => h2 _ H1 ((S.mono s1).set i a1) D fun w H2 n s2 a2 => q w H2 (s1.free n) (s1.trans s2) a2)
/-- if c: a block that hands back; then the rest -/
theorem go_if {b : Bool} (hc : PuT X Γ c b) (h1 : b = true → Go X Γ body r) (h2 : b = false → Go X Γ sts r) : Go X Γ (.If c body [] pos :: sts) r := fun σ H S D q =>
  wss_of (pss_cons (ps_if pt_wt pss_wss pss_nil) pss_wss) (hc σ H S _ fun H1 s1 => by
    cases b with
    | true => exact h1 rfl σ H1 (S.mono s1) _ fun v H2 s2 a2 => q v H2 (s1.trans s2) a2
    | false => exact h2 rfl σ H1 (S.mono s1) D fun v H2 s2 a2 => q v H2 (s1.trans s2) a2)
theorem gon_if {b : Bool} (hc : PuT X Γ c b) (h1 : b = true → GoN X Γ body ds) (h2 : b = false → GoN X Γ sts ds) : GoN X Γ (.If c body [] pos :: sts) ds := fun σ H S D q =>
  wss_of (pss_cons (ps_if pt_wt pss_wss pss_nil) pss_wss) (hc σ H S _ fun H1 s1 => by
    cases b with
    | true => exact h1 rfl σ H1 (S.mono s1) _ fun v H2 n s2 a2 => q v H2 (s1.free n) (s1.trans s2) a2
    | false => exact h2 rfl σ H1 (S.mono s1) D fun v H2 n s2 a2 => q v H2 (s1.free n) (s1.trans s2) a2)
end
/-- THE RULE for a pure def -/
theorem Go.run {X : Cx} {Γ : Gm} {sts : List Stmt} {r : Rs} {σ : L2.St} {H : Hp} {Q : VK} {nx : L2.St → Hp → Prop} (h : Go X Γ sts r) (S : Sl H σ Γ) (q : ∀ v H', Same H H' → At H' v r → Q v H') : ∃ t, PSs X sts t ∧ t { nx := nx, rt := Q } σ H :=
  ⟨_, pss_wss, h σ H S _ q⟩
theorem GoN.run {X : Cx} {Γ : Gm} {sts : List Stmt} {r : List PyData} {σ : L2.St} {H : Hp} {Q : VK} {nx : L2.St → Hp → Prop} (h : GoN X Γ sts r) (S : Sl H σ Γ) (q : ∀ p H', H p = none → Same H H' → Ls H' p r → Q (.ref p) H') : ∃ t, PSs X sts t ∧ t { nx := nx, rt := Q } σ H :=
  ⟨_, pss_wss, h σ H S _ q⟩
/-- the slots at the entry -/
theorem sl_start {H : Hp} : ∀ {vs : List V} {as : List Rs} {n : Nat}, AtAll H vs as → Sl H (vs.map some ++ List.replicate n none) (as.map some ++ List.replicate n none)
  | [], _, n, h => by
    cases h
    refine ⟨by simp, fun i r e => ?_⟩
    simp only [List.map_nil, List.nil_append] at e
    rw [List.getElem?_replicate] at e
    split at e <;> cases e
  | v :: vs, _, n, h => by
    cases h with
    | cons a b =>
      have ih := sl_start (n := n) b
      refine ⟨by simpa using ih.len, fun i r e => ?_⟩
      cases i with
      | zero =>
        have e : some _ = some (some r) := e
        cases e
        exact ⟨v, rfl, a⟩
      | succ i => exact ih.at_ i r e
theorem sl_start' {H : Hp} {N : List Str} {vs : List V} {as : List Rs} (h : AtAll H vs as) : Sl H (L2.start N vs) (as.map some ++ List.replicate (N.length - as.length) none) := by
  have e : vs.length = as.length := Paired.length h
  unfold L2.start
  rw [e]
  exact sl_start h
end K47
/-! K3: sorted of data, dict of pairs with tuple keys, list(d.items()), repr. -/
namespace K47
open PySem PySem.Spec PyProof.Rows L2
open PySem.W (EachIs AllAlike Sortable dataLe)
/-! ### values that read as data -/
section
variable {X : Cx} {pins : List (Addr × Obj)} {σ : L2.St} {H : Hp} {s : Shared} {β : Type}
/-- u is a value of data b in H -/
def RdI (H : Hp) (enc : β → PyData) (u : Value) (b : β) : Prop := ∃ v, RelV v u ∧ Im H v (enc b)
theorem each_of {enc : β → PyData} : ∀ {bs : List β} {vs : List V} {us : List Value}, ImAll H vs (bs.map enc) → Vals vs us → EachIs (RdI H enc) us bs
  | [], _, _, a, r => by
    cases a
    cases r
    exact .nil
  | b :: bs, _, _, a, r => by
    cases a with
    | cons a t =>
      cases r with
      | cons r rt => exact .cons ⟨_, r, a⟩ (each_of t rt)
theorem each_back {enc : β → PyData} : ∀ {bs : List β} {us : List Value}, EachIs (RdI H enc) us bs → ∃ vs, Vals vs us ∧ ImAll H vs (bs.map enc)
  | _, _, .nil => ⟨[], .nil, .nil⟩
  | _, _, .cons ⟨v, r, a⟩ t => by
    obtain ⟨vs, h1, h2⟩ := each_back t
    exact ⟨v :: vs, .cons r h1, .cons a h2⟩
theorem RdI.reads {enc : β → PyData} {u : Value} {b : β} (I : Inv X pins σ H s) (h : RdI H enc u b) : ∃ as, Reads s.heap u (enc b) as := by
  obtain ⟨v, r, a⟩ := h
  exact Dp.reads I _ _ _ a.dp r
end
/-! ### sorted(list of data) -/
def rSortedD (K : PySem.W.Frag) : List V → Hp → VK → Prop := fun vs H Q => ∃ (β : Type) (enc : β → PyData) (bs : List β) (a : Addr) (xs : List V), vs = [V.ref a] ∧ SqL K H a xs ∧ ImAll H xs (bs.map enc) ∧ AllAlike (bs.map enc) ∧ Sortable (bs.map enc) ∧ (∀ b ∈ bs, (enc b).depth ≤ 64) ∧
  ∀ (ys : List V) (p : Addr), H p = none → ImAll H ys ((bs.mergeSort (dataLe false enc)).map enc) → Q (.ref p) (upd H p (.lst ys))
theorem cr_sortedD {X : Cx} (hu : X.A.units + 100 < cLine) : CallR X (.builtin "sorted") (rSortedD X.K) := by
  intro pins s σ H vs us Q I r h
  obtain ⟨β, enc, bs, a, xs, rfl, hs, al, hal, hsk, hd, q⟩ := h
  obtain ⟨its, rv, hl, hz⟩ := I.list hs
  rw [Vals.ref1 r]
  have he := each_of al rv
  have hbl : bs.length = xs.length := by rw [al.length, List.length_map]
  refine PySem.W.sorted_data hl.isList he (he.mono fun u b q => q.reads I) hal hsk (by rw [hbl]; exact hz) (fun b hb => by have := hd b hb; omega) fun out ho eo => ?_
  obtain ⟨ys, h1, h2⟩ := each_back eo
  obtain ⟨ep, he'⟩ := PyProof.Rows.sortedAll_at s.heap its out.toArray
  have hfr : H (s.heap.objs.size + 1) = none := I.hok.fresh (Nat.le_succ _)
  have hlen : ys.length ≤ sizeLine := by rw [h1.length, ho, hbl]; exact hz
  exact ⟨.ref _, upd H (s.heap.objs.size + 1) (.lst ys), I.laid (t' := s.toks) (fun _ _ => PyProof.Rows.sortedAll_old) (Nat.le_succ _) ⟨hlen, out, ep, h1, he'⟩, rfl, q ys _ hfr h2⟩
theorem pun_sortedD {X : Cx} {Γ : Gm} {e : Expr} {p pos : Pos} {β : Type} {enc : β → PyData} {bs : List β} (M : Mg X.mg) (hu : X.A.units + 100 < cLine) (ha : Pu X Γ e (.l (bs.map enc))) (hal : AllAlike (bs.map enc)) (hsk : Sortable (bs.map enc)) (hd : ∀ b ∈ bs, (enc b).depth ≤ 64)
    (hg : Gl X "sorted" := by rfl) (he : starEach [e] X.env = [(false, eval e X.env)] := by rfl) : PuN X Γ (.Call (.Name "sorted" p) [e] [] pos) ((bs.mergeSort (dataLe false enc)).map enc) :=
  pun_cB (cr_sortedD hu) M.sorted (by decide +kernel) (fun H xs ax Q q => by
    obtain ⟨v, rfl, a, rfl, vs, hp, al⟩ := at1 ax
    exact ⟨β, enc, bs, a, vs, rfl, SqL.of hp, al, hal, hsk, hd, fun ys np hnp hy => q np _ hnp (same_new hnp) ⟨ys, upd_same, hy.mono (.new hnp)⟩⟩) (pua_cons ha pua_nil he) hg (he := he)
/-! ### dict(list of (tuple of ints, int)) -/
def eTI (p : List Int × Int) : PyData := .tuple [.tuple (p.1.map .int), .int p.2]
theorem im_TI {H : Hp} {v : V} {p : List Int × Int} (h : Im H v (eTI p)) : ∃ a k, v = .ref a ∧ H a = some (.tup [.ref k, .int p.2]) ∧ H k = some (.tup (p.1.map V.int)) := by
  cases h with
  | tup ha al =>
    cases al with
    | cons a1 t =>
      cases t with
      | cons a2 t2 =>
        cases t2
        cases a2
        obtain ⟨k, rfl, hk⟩ := Im.tup_ints a1
        exact ⟨_, k, rfl, ha, hk⟩
theorem kv_ints (s : List Int) : (s.map (Sum.inl : Int → L2.Key)).map kV = s.map V.int := by
  rw [List.map_map]; rfl
theorem inl_map_inj {a b : List Int} (h : a.map (Sum.inl : Int → L2.Key) = b.map Sum.inl) : a = b := by
  have := congrArg (List.map (fun k : L2.Key => match k with | .inl i => i | .inr _ => 0)) h
  simpa [List.map_map, Function.comp_def] using this
section
variable {X : Cx}
theorem storedAllH_app {K : Type} [DecidableEq K] : ∀ (ps xs : List (K × Addr × Value)), ((xs ++ ps).map (·.1)).Nodup → storedAllH xs ps = xs ++ ps
  | [], xs, _ => by simp [storedAllH]
  | p :: ps, xs, h => by
    have hn : atKey xs p.1 = none := by
      cases e : atKey xs p.1 with
      | none => rfl
      | some q =>
        exfalso
        have hm : p.1 ∈ xs.map (·.1) := by
          unfold atKey at e
          obtain ⟨x, hx, _⟩ := Option.map_eq_some_iff.mp e
          have h1 := List.mem_of_find?_eq_some hx
          have h2 := List.find?_some hx
          have h3 : x.1 = p.1 := by simpa using h2
          exact List.mem_map.mpr ⟨x, h1, h3⟩
        rw [List.map_append] at h
        have := (List.nodup_append.mp h).2.2 _ hm p.1 (by simp)
        exact this rfl
    have e1 : storedAllH xs (p :: ps) = storedAllH (storedH xs p.1 p.2.1 p.2.2) ps := rfl
    rw [e1, storedH_new hn]
    have e2 : xs ++ [(p.1, p.2.1, p.2.2)] ++ ps = xs ++ p :: ps := by simp
    rw [storedAllH_app ps _ (by rw [e2]; exact h), e2]
def rDictT (K : PySem.W.Frag) : List V → Hp → VK → Prop := fun vs H Q => ∃ (a : Addr) (xs : List V) (kvs : List (List Int × Int)), vs = [V.ref a] ∧ SqL K H a xs ∧ ImAll H xs (kvs.map eTI) ∧ (kvs.map (·.1)).Nodup ∧ ∀ p, H p = none → Q (.ref p) (upd H p (.dT (encT kvs)))
/-- the key's address, the value of a pair -/
def keyAd (H : Hp) (v : V) : Addr := match v with
  | .ref a => match H a with
    | some (.tup (.ref k :: _)) => k
    | _ => 0
  | _ => 0
def tupAd (v : V) : Addr := match v with
  | .ref a => a
  | _ => 0
theorem call_dictT (hc : X.calm = true) (hu : X.A.units + 100 < cLine) : CallR X (.type "dict") (rDictT X.K) := by
  intro pins s σ H vs us Q I r h
  obtain ⟨a, xs, kvs, rfl, hs, al, nd, q⟩ := h
  obtain ⟨its, rv, hl, hz⟩ := I.list hs
  rw [Vals.ref1 r]
  -- a token for each value
  have vals : ∀ (j : Nat) (p : List Int × Int), kvs[j]? = some p → ∃ T k u, xs[j]? = some (.ref T) ∧ H T = some (.tup [.ref k, .int p.2]) ∧ H k = some (.tup (p.1.map V.int)) ∧ RelV (.int p.2) u ∧ PairAt s.heap T (.ref k) u := by
    intro j p hj
    obtain ⟨v, h1, h2⟩ := al.get (i := j) (d := eTI p) (by rw [List.getElem?_map, hj]; rfl)
    obtain ⟨T, k, rfl, hT, hk⟩ := im_TI h2
    obtain ⟨zz, its2, r2, o, ho, hcl, n, hdat⟩ := I.hok T _ hT
    cases r2 with
    | cons ra rb =>
      cases rb with
      | cons rb rc =>
        cases rc
        cases ra
        exact ⟨T, k, _, h1, hT, hk, rb, .inl ⟨o, ho, hcl, n, hdat⟩⟩
  -- the list of them
  have mk : ∀ n, n ≤ kvs.length → ∃ us : List Value, us.length = n ∧ ∀ (j : Nat) (p : List Int × Int), j < n → kvs[j]? = some p → ∃ T k u, xs[j]? = some (.ref T) ∧ H T = some (.tup [.ref k, .int p.2]) ∧ H k = some (.tup (p.1.map V.int)) ∧ us[j]? = some u ∧ RelV (.int p.2) u ∧ PairAt s.heap T (.ref k) u := by
    intro n
    induction n with
    | zero => intro _; exact ⟨[], rfl, fun j p hj _ => absurd hj (Nat.not_lt_zero _)⟩
    | succ n ih =>
      intro hn
      obtain ⟨us, hl1, hus⟩ := ih (by omega)
      obtain ⟨T, k, u, h1, h2, h3, h4, h5⟩ := vals n kvs[n] (List.getElem?_eq_getElem (by omega))
      refine ⟨us ++ [u], by simp [hl1], fun j p hj hp => ?_⟩
      by_cases hjn : j < n
      · obtain ⟨T', k', u', g1, g2, g3, g4, g5, g6⟩ := hus j p hjn hp
        exact ⟨T', k', u', g1, g2, g3, by rw [List.getElem?_append_left (by omega)]; exact g4, g5, g6⟩
      · have e : j = n := by omega
        subst e
        have ep : kvs[j] = p := by
          rw [List.getElem?_eq_getElem (by omega)] at hp
          exact Option.some.inj hp
        subst ep
        exact ⟨T, k, u, h1, h2, h3, by rw [List.getElem?_append_right (by omega), hl1]; simp, h4, h5⟩
  obtain ⟨ws, hwl, hws⟩ := mk kvs.length (Nat.le_refl _)
  have hxl : xs.length = kvs.length := by rw [al.length, List.length_map]
  -- the stored triples, the pairs
  let ps : List (List L2.Key × Addr × Value) := (List.range kvs.length).map fun j => ((kvs.getD j ([], 0)).1.map Sum.inl, keyAd H (xs.getD j .non), ws.getD j .none)
  let prs : List (Value × Value) := (List.range kvs.length).map fun j => (Value.ref (keyAd H (xs.getD j .non)), ws.getD j .none)
  have at_ : ∀ (j : Nat) (p : List Int × Int), kvs[j]? = some p → ∃ T k u, xs[j]? = some (.ref T) ∧ H k = some (.tup (p.1.map V.int)) ∧ RelV (.int p.2) u ∧ PairAt s.heap T (.ref k) u ∧ ps[j]? = some (p.1.map Sum.inl, k, u) ∧ prs[j]? = some (.ref k, u) ∧ tupAd (xs.getD j .non) = T := by
    intro j p hj
    have hjl := (List.getElem?_eq_some_iff.mp hj).1
    obtain ⟨T, k, u, h1, h2, h3, h4, h5, h6⟩ := hws j p hjl hj
    have e1 : xs.getD j .non = .ref T := by rw [List.getD_eq_getElem?_getD, h1]; rfl
    have e2 : keyAd H (.ref T) = k := by simp [keyAd, h2]
    have e3 : kvs.getD j ([], 0) = p := by rw [List.getD_eq_getElem?_getD, hj]; rfl
    have e4 : ws.getD j .none = u := by rw [List.getD_eq_getElem?_getD, h4]; rfl
    refine ⟨T, k, u, h1, h3, h5, h6, ?_, ?_, by rw [e1]; rfl⟩
    · show ((List.range kvs.length).map _)[j]? = _
      rw [List.getElem?_map, List.getElem?_range hjl]
      simp only [Option.map_some, e1, e2, e3, e4]
    · show ((List.range kvs.length).map _)[j]? = _
      rw [List.getElem?_map, List.getElem?_range hjl]
      simp only [Option.map_some, e1, e2, e4]
  have hpsl : ps.length = kvs.length := by simp [ps]
  have hprl : prs.length = kvs.length := by simp [prs]
  clear_value ps prs
  have kat : ∀ (j : Nat) (h : j < kvs.length), kvs[j]? = some kvs[j] := fun j h => List.getElem?_eq_getElem h
  have P := PairArg.list (prog := X.prog) (w := X.w) a its.toArray (fun j => tupAd (xs.getD j .non)) prs
  have okH : PlainSeq "list" s.heap a its.toArray ∧ PairItems s.heap its.toArray (fun j => tupAd (xs.getD j .non)) prs := by
    obtain ⟨o, n, ho, hcl, hd, hdat⟩ := hl
    refine ⟨⟨o, n, ho, hcl, hd, hdat⟩, by rw [List.size_toArray, hprl, ← rv.length, hxl], fun j k v hj => ?_⟩
    have hjl : j < kvs.length := by rw [← hprl]; exact (List.getElem?_eq_some_iff.mp hj).1
    obtain ⟨T, k', u, h1, h3, h5, h6, h7, h8, h9⟩ := at_ j _ (kat j hjl)
    rw [h8] at hj
    cases hj
    obtain ⟨u2, g1, g2⟩ := rv.get h1
    cases g2
    exact ⟨by simp only [h9]; simpa using g1, by simp only [h9]; exact h6⟩
  have keys : ps.map (·.1) = kvs.map fun p => p.1.map Sum.inl := by
    apply List.ext_getElem?
    intro j
    rw [List.getElem?_map, List.getElem?_map]
    by_cases hj : j < kvs.length
    · obtain ⟨T, k, u, _, _, _, _, h7, _⟩ := at_ j _ (kat j hj)
      rw [h7, kat j hj]; rfl
    · rw [List.getElem?_eq_none (by omega), List.getElem?_eq_none (by omega)]; rfl
  have ndK : (ps.map (·.1)).Nodup := by
    rw [keys]
    have e : (kvs.map fun p => p.1.map (Sum.inl : Int → L2.Key)) = (kvs.map (·.1)).map (List.map Sum.inl) := by rw [List.map_map]; rfl
    rw [e]
    exact List.Pairwise.map _ (fun a b h h2 => h (inl_map_inj h2)) nd
  have hst : storedAllH [] ps = ps := by
    have := storedAllH_app ps [] (by simpa using ndK)
    simpa using this
  refine call_dict_pairsH (knd := tupleKind (mixKind X.prog X.w)) (ps := ps) P (I.ok.hd hc) (show X.A.units + 1 + 1 < cLine by omega) okH ⟨by rw [hpsl, hprl], fun i key v hi => ?_⟩ (fun h' hk x hx => ?_) (by rw [hprl, ← hxl]; exact hz) fun h' tk hd' hk => ?_
  · have hil : i < kvs.length := by rw [← hprl]; exact (List.getElem?_eq_some_iff.mp hi).1
    obtain ⟨T, k', u, h1, h3, h5, h6, h7, h8, h9⟩ := at_ i _ (kat i hil)
    have hi : prs[i]? = some (key, v) := hi
    rw [h8] at hi
    cases hi
    exact ⟨_, k', h7, rfl⟩
  · obtain ⟨j, hjx⟩ := List.getElem?_of_mem hx
    have hjl : j < kvs.length := by rw [← hpsl]; exact (List.getElem?_eq_some_iff.mp hjx).1
    obtain ⟨T, k', u, h1, h3, h5, h6, h7, h8, h9⟩ := at_ j _ (kat j hjl)
    rw [h7] at hjx
    cases hjx
    have e := key_of (ks := kvs[j].1.map Sum.inl) I.hok (by rw [kv_ints]; exact h3)
    obtain ⟨o, its3, n, g1, g2⟩ := e
    exact ⟨o, its3, n, hk _ _ (Nat.ne_of_lt (Heap.lt_size g1)) (by simp) g1, g2⟩
  · rw [hst] at hd'
    obtain ⟨o, es, ep, g1, g2, g3, g4, _, g5⟩ := hd'
    have hm : (s.heap.objs.size == sysModules) = false := beq_eq_false_iff_ne.mpr (Nat.ne_of_gt I.big)
    have hfr : H s.heap.objs.size = none := I.hok.fresh (Nat.le_refl _)
    refine ⟨.ref s.heap.objs.size, upd H s.heap.objs.size (.dT (encT kvs)), I.laid (t' := tk) (fun b o e => hk b o (by simp) e) (Nat.le_refl _) ⟨?_, hm, ps, ?_, o, es, ep, g1, g2, g3, g4, g5⟩, rfl, q _ hfr⟩
    · show (kvs.map _).length ≤ _
      rw [List.length_map, ← hxl]; exact hz
    · -- pairwise
      have pw : ∀ (l : List (List L2.Key × V)) (m : List (List L2.Key × Addr × Value)), l.length = m.length → (∀ (j : Nat) x y, l[j]? = some x → m[j]? = some y → x.1 = y.1 ∧ (upd H s.heap.objs.size (.dT (encT kvs))) y.2.1 = some (.tup (x.1.map kV)) ∧ RelV x.2 y.2.2) →
          Paired (fun (p : List L2.Key × V) (q : List L2.Key × Addr × Value) => p.1 = q.1 ∧ (upd H s.heap.objs.size (.dT (encT kvs))) q.2.1 = some (.tup (p.1.map kV)) ∧ RelV p.2 q.2.2) l m := by
        intro l
        induction l with
        | nil => intro m hm _; cases m with
          | nil => exact .nil
          | cons _ _ => simp at hm
        | cons x l ih =>
          intro m hm hh
          cases m with
          | nil => simp at hm
          | cons y m =>
            exact .cons (hh 0 x y rfl rfl) (ih m (by simpa using hm) fun j x' y' h1 h2 => hh (j + 1) x' y' (by simpa using h1) (by simpa using h2))
      refine pw _ _ (by rw [hpsl]; simp [encT]) fun j x y hx hy => ?_
      have hjl : j < kvs.length := by rw [← hpsl]; exact (List.getElem?_eq_some_iff.mp hy).1
      obtain ⟨T, k', u, h1, h3, h5, h6, h7, h8, h9⟩ := at_ j _ (kat j hjl)
      rw [h7] at hy
      cases hy
      have hx : (kvs.map fun p => (p.1.map Sum.inl, V.int p.2))[j]? = some x := hx
      rw [List.getElem?_map, kat j hjl] at hx
      cases hx
      refine ⟨rfl, ?_, h5⟩
      show upd H s.heap.objs.size (.dT (encT kvs)) k' = some (.tup ((kvs[j].1.map Sum.inl).map kV))
      rw [upd_ne (ne_of_none h3 hfr), kv_ints]
      exact h3
theorem pu_dictT {Γ : Gm} {e : Expr} {p pos : Pos} {kvs : List (List Int × Int)} (M : Mg X.mg) (hc : X.calm = true) (hu : X.A.units + 100 < cLine) (ha : Pu X Γ e (.l (kvs.map eTI))) (nd : (kvs.map (·.1)).Nodup)
    (hg : Gl X "dict" := by rfl) (he : starEach [e] X.env = [(false, eval e X.env)] := by rfl) : Pu X Γ (.Call (.Name "dict" p) [e] [] pos) (.t kvs) :=
  pu_cT (call_dictT hc hu) M.dict (by decide +kernel) (fun H xs ax Q q => by
    obtain ⟨v, rfl, a, rfl, vs, hp, al⟩ := at1 ax
    exact ⟨a, vs, kvs, rfl, SqL.of hp, al, nd, fun np hnp => q _ _ (same_new hnp) ⟨np, rfl, .inl upd_same⟩⟩) (pua_cons ha pua_nil he) hg (he := he)
end
end K47
/-! K4: sorted(xs, key=f), f a pure def. -/
namespace K47
open PySem PySem.Spec PyProof.Rows L2 PySem.Calls
open PySem.W (EachIs AllAlike Sortable dataLe dataKind SortsAt KeepsBut copyHeap copyHeap_at copyHeap_old keyH_end keyedOut_each sortVals sorted_of_sort KeyedOut)
section
variable {X : Cx} {pins : List (Addr × Obj)} {σ : L2.St} {H : Hp} {s : Shared}
/-- an object of ours that was not tracked is tracked from here on -/
theorem inv_track {a : Addr} {o : HO} (I : Inv X pins σ H s) (f : FpOk X pins H a) (hz : X.s_0.heap.objs.size ≤ a) (new : ObjOk X.prog X.w (upd H a o) s.heap a o) : Inv X pins σ (upd H a o) s := by
  obtain ⟨hn, fL, _, _, fc, fp⟩ := f
  refine ⟨I.ok, I.os, I.bare, ⟨I.base.keep, I.base.slot, fun b ob e n hx => ?_, I.base.there, fun b xs e => ?_, fun b ob x e => ?_, fun b ps e => ?_⟩, I.loc, I.cell, ?_, fun x c e => ?_, fun p hp => ?_, fun b ob e => ?_, I.len⟩
  · rw [upd_ne (Nat.ne_of_lt (Nat.lt_of_lt_of_le (Heap.lt_size e) hz))]; exact I.base.free b ob e n hx
  · have q := I.base.tups b xs e
    rw [upd_ne (ne_of_none q hn)]; exact q
  · have q := I.base.frzs b ob x e
    rw [upd_ne (ne_of_none q hn)]; exact q
  · obtain ⟨m, q⟩ := I.base.tbls b ps e
    exact ⟨m, by rw [upd_ne (ne_of_none q hn)]; exact q⟩
  · rw [upd_ne (Ne.symm fL)]; exact I.free
  · rw [upd_ne (fc x c e)]; exact I.freeC x c e
  · obtain ⟨e, n, r⟩ := I.pin p hp
    exact ⟨e, by rw [upd_ne (fp p hp)]; exact n, r⟩
  · by_cases hb : b = a
    · subst hb
      rw [upd_same] at e
      cases e
      exact new
    · rw [upd_ne hb] at e
      exact (I.hok b ob e).stay (fun c v _ q => q) (fun c q => by rw [upd_ne (ne_of_none q hn)]; exact q) fun c xs q => by rw [upd_ne (ne_of_none q hn)]; exact q
def rSortedK (K : PySem.W.Frag) (sp : Sp) (f : Addr) : List V → List V → Hp → VK → Prop := fun vs zs H Q => ∃ (β : Type) (enc key : β → PyData) (bs : List β) (a : Addr) (xs : List V), vs = [V.ref a] ∧ zs = [V.ref f] ∧ SqL K H a xs ∧ ImAll H xs (bs.map enc) ∧ AllAlike (bs.map key) ∧ Sortable (bs.map key) ∧ (∀ b ∈ bs, (key b).depth ≤ 64) ∧
  (∀ b ∈ bs, ∀ (H' : Hp) (v : V) (Q' : VK), Im H' v (enc b) → (∀ v' H'', Same H' H'' → Im H'' v' (key b) → Q' v' H'') → sp [v] H' Q' E0) ∧
  ∀ (ys : List V) (p : Addr) (H' : Hp), H p = none → Same H H' → H' p = some (.lst ys) → ImAll H' ys ((bs.mergeSort (dataLe false key)).map enc) → Q (.ref p) H'
theorem cr_sortedK {k : Nat} {f : Addr} {fd : FuncData} {ps : List Str} {sp : Sp} (F : FnOk X.prog X.w X.K X.mg X.base CX0 k f fd ps sp) (hb : Binds X.K fd ps []) (hr : Room (k + 1) X.A) : CallRK X (.builtin "sorted") [Str.ofString "key"] (rSortedK X.K sp f) := by
  intro pins s σ H vs zs us ws Q I r rz h
  obtain ⟨β, enc, key, bs, a, xs, rfl, rfl, hs, al, hal, hsk, hd, hsp, q⟩ := h
  obtain ⟨its, rv, hl, hz⟩ := I.list hs
  obtain rfl := Vals.ref1 r
  obtain rfl := Vals.ref1 rz
  have hun := hr.un
  have hbl : bs.length = xs.length := by rw [al.length, List.length_map]
  have hil : its.length = xs.length := rv.length.symm
  show wpAny (model X.prog X.w) X.A (call (.builtin "sorted") [.ref a] [(Str.ofString "key", .ref f)]) (EP X pins σ Q) X.xe s
  refine sorted_of_sort hl.isList (by rw [hil]; exact hz) (PyProof.Rows.ksk_s1 _ _) (fun _ => PyProof.Rows.ksk_l1 _ _) fun E' => ?_
  rw [ksk_t1]
  -- the copy, emptied; the tuple held; the keys' list
  have ho : (copyHeap s.heap its).get? (s.heap.objs.size + 1) = some (seqObj "list" its.toArray 0) := copyHeap_at s.heap its
  obtain ⟨e1, ho1⟩ : ∃ e1, ((copyHeap s.heap its).update (s.heap.objs.size + 1) (Obj.mapSeq fun _ => (#[] : Array Value))).get? (s.heap.objs.size + 1) = some (seqObj "list" #[] e1) := ⟨_, get?_update_seq ho fun _ => #[]⟩
  unfold ksk_tree
  refine wpAny_bind (listItems_at ho rfl ?_)
  refine wpAny_bind (listUpdate_at ho rfl ?_ (by rw [List.size_toArray, hil]; exact hz) (Nat.zero_le _))
  refine wpAny_bind (seqEpoch_at ho1 rfl ?_)
  refine wpAny_bind (wpAny_newTuple ?_ (by show its.length ≤ _; rw [hil]; exact hz))
  refine wpAny_bind (wpAny_newList ?_ (Nat.zero_le _))
  refine wpAny_holding ?_
  obtain ⟨a0, ha0⟩ : ∃ a0, a0 = s.heap.objs.size + 1 := ⟨_, rfl⟩
  rw [← ha0] at ho ho1 ⊢
  have hkS : (((copyHeap s.heap its).update a0 (Obj.mapSeq fun _ => (#[] : Array Value))).push (seqObj "tuple" its.toArray 0)).objs.size = (copyHeap s.heap its).objs.size + 1 := by rw [size_push', Heap.size_update]
  have hcs : a0 < (copyHeap s.heap its).objs.size := Heap.lt_size ho
  show wpAny (model X.prog X.w) X.A.in1.in1 (ksk_rest a0 (.ref f) false its.toArray e1 (.ref (((copyHeap s.heap its).update a0 (Obj.mapSeq fun _ => (#[] : Array Value))).push (seqObj "tuple" its.toArray 0)).objs.size)) _ E'
    { s with heap := (((copyHeap s.heap its).update a0 (Obj.mapSeq fun _ => (#[] : Array Value))).push (seqObj "tuple" its.toArray 0)).push (seqObj "list" #[] 0) }
  have kp1 : ∀ b o, s.heap.get? b = some o → ((((copyHeap s.heap its).update a0 (Obj.mapSeq fun _ => (#[] : Array Value))).push (seqObj "tuple" its.toArray 0)).push (seqObj "list" #[] 0)).get? b = some o := fun b o e => by
    refine Heap.get?_push_of_some _ (Heap.get?_push_of_some _ ?_)
    have hlt : b < s.heap.objs.size := Heap.lt_size e
    have hne : b ≠ a0 := by rw [ha0]; exact Nat.ne_of_lt (Nat.lt_succ_of_lt hlt)
    rw [Heap.get?_update_ne _ _ _ _ hne]
    exact copyHeap_old e
  have naI : ((((copyHeap s.heap its).update a0 (Obj.mapSeq fun _ => (#[] : Array Value))).push (seqObj "tuple" its.toArray 0)).push (seqObj "list" #[] 0)).get? a0 = some (seqObj "list" #[] e1) := Heap.get?_push_of_some _ (Heap.get?_push_of_some _ ho1)
  have nkI : ((((copyHeap s.heap its).update a0 (Obj.mapSeq fun _ => (#[] : Array Value))).push (seqObj "tuple" its.toArray 0)).push (seqObj "list" #[] 0)).get? (((copyHeap s.heap its).update a0 (Obj.mapSeq fun _ => (#[] : Array Value))).push (seqObj "tuple" its.toArray 0)).objs.size = some (seqObj "list" #[] 0) := Heap.get?_push_size _ rfl
  generalize ((((copyHeap s.heap its).update a0 (Obj.mapSeq fun _ => (#[] : Array Value))).push (seqObj "tuple" its.toArray 0)).push (seqObj "list" #[] 0)) = h1 at kp1 naI nkI ⊢
  generalize hkd : (((copyHeap s.heap its).update a0 (Obj.mapSeq fun _ => (#[] : Array Value))).push (seqObj "tuple" its.toArray 0)).objs.size = kS at nkI hkS ⊢
  have hka : kS ≠ a0 := by omega
  have hAs : s.heap.objs.size ≤ a0 := by omega
  have hKs : s.heap.objs.size ≤ kS := by omega
  have fpA : ∀ H', H' a0 = none → FpOk X pins H' a0 := fun H' n => I.fpOk hAs n
  have fpK : ∀ H', H' kS = none → FpOk X pins H' kS := fun H' n => I.fpOk hKs n
  have I1 : Inv X pins σ H { s with heap := h1 } := I.kept (t' := s.toks) kp1
  have nA : H a0 = none := I.hok.fresh hAs
  have nK : H kS = none := I.hok.fresh hKs
  -- pins
  have pinned : ∀ {H' : Hp} {s' : Shared} {kA : Array Value} {e : Nat}, Inv X pins σ H' s' → H' a0 = none → H' kS = none → s'.heap.get? a0 = some (seqObj "list" #[] e1) → s'.heap.get? kS = some (seqObj "list" kA e) →
      Inv X ((a0, seqObj "list" #[] e1) :: (kS, seqObj "list" kA e) :: pins) σ H' s' := fun {H' s' kA e} J n1 n2 g1 g2 => J.pins_of fun p hp => by
    rcases List.mem_cons.mp hp with rfl | hp
    · obtain ⟨_, f1, f2, _⟩ := fpA H' n1
      exact ⟨g1, n1, f1, f2, fun v z => nomatch z⟩
    · rcases List.mem_cons.mp hp with rfl | hp
      · obtain ⟨_, f1, f2, _⟩ := fpK H' n2
        exact ⟨g2, n2, f1, f2, fun v z => nomatch z⟩
      · exact J.pin p (List.mem_append_right _ hp)
  unfold ksk_rest
  refine wpAny_bind (wpAny_rule ?_)
  first
    | rw [List.forIn_toArray]
    | (rw [← Array.forIn_toList]; simp only [List.toList_toArray])
    | rw [← Array.forIn_toList]
  refine wpAny_bind (ksk_fold (fun i s' => ∃ H' kA e kvs, Inv X ((a0, seqObj "list" #[] e1) :: (kS, seqObj "list" kA e) :: pins) σ H' s' ∧ Same H H' ∧ Vals kvs kA.toList ∧ ImAll H' kvs ((bs.map key).take i)) its 0 _
    ⟨H, #[], 0, [], pinned I1 nA nK naI nkI, Same.refl H, .nil, by rw [List.take_zero]; exact .nil⟩ ?step ?done)
  case step =>
    rintro j x s' hx ⟨H', kA, e, kvs, J, s1, vk, ak⟩
    simp only [Nat.zero_add] at ak ⊢
    have hj : j < its.length := (List.getElem?_eq_some_iff.mp hx).1
    have hjb : j < bs.length := by omega
    have hbj : bs[j]? = some bs[j] := List.getElem?_eq_getElem hjb
    have hm : bs[j] ∈ bs := List.getElem_mem hjb
    obtain ⟨v, hv, im⟩ := al.get (i := j) (d := enc bs[j]) (by rw [List.getElem?_map, hbj]; rfl)
    obtain ⟨x', hx', rx⟩ := rv.get hv
    rw [hx] at hx'
    cases hx'
    have hroom : Room k X.A.in1.in1 := ⟨hr.hd, by have := hr.dp; show X.A.depth + 3 * k + 5 < _; omega, by show X.A.units + 1 + 1 + 16 * k + 200 < _; omega⟩
    have hsp' := hsp _ hm H' v (fun v' H'' => Same H' H'' ∧ Im H'' v' (key bs[j])) (im.mono (.of s1)) fun v' H'' a b => ⟨a, b⟩
    have hlen : ([x] ++ ([] : List Value)).length = ps.length := by have := F.len _ _ _ _ hsp'; simpa using this
    have run := F.run X.A.in1.in1 X.stack s' H' ⟨[x], []⟩ [x] [v] _ E0 hroom J.env0.in1.in1 (by have := hb s' [x] J.kIn hlen; simpa using this) (.cons rx .nil) hsp'
    refine wpAny_bind (wpAny_attempt (wpAny_call (codeAny_mono run fun res s2 hq => ?_)))
    cases res with
    | error e => exact hq.elim
    | ok fl =>
      cases fl with
      | next => exact False.elim hq
      | brk => exact False.elim hq
      | cont => exact False.elim hq
      | ret u =>
        obtain ⟨kv, H2, J2, rk, sm2, imk⟩ := J.after hq
        try dsimp only
        have na2 := (J2.pin (a0, seqObj "list" #[] e1) (List.mem_append_right _ (by simp))).1
        have nk2 := (J2.pin (kS, seqObj "list" kA e) (List.mem_append_right _ (by simp))).1
        have nA2 := (J2.pin (a0, seqObj "list" #[] e1) (List.mem_append_right _ (by simp))).2.1
        have nK2 := (J2.pin (kS, seqObj "list" kA e) (List.mem_append_right _ (by simp))).2.1
        have hkl : kA.size ≤ its.length := by
          have g1 : kvs.length = kA.toList.length := vk.length
          have g2 : kvs.length = ((bs.map key).take j).length := ak.length
          have g3 : kA.toList.length = kA.size := Array.length_toList
          rw [List.length_take, List.length_map] at g2
          omega
        obtain ⟨c2, hc2⟩ : ∃ c2, (s2.heap.update kS (Obj.mapSeq (·.push u))).get? kS = some (seqObj "list" (kA.push u) c2) := ⟨_, get?_update_seq nk2 (·.push u)⟩
        have sb := Heap.SameBut.update s2.heap kS (Obj.mapSeq (·.push u))
        refine wpAny_bind (listUpdate_at nk2 rfl ?_ (by rw [hil] at hkl; exact Nat.le_trans hkl hz) (Nat.le_trans (Nat.le_of_eq (Array.size_push ..)) (Nat.succ_le_succ (by rw [hil] at hkl; exact Nat.le_trans hkl hz))))
        refine wpAny_pure ⟨rfl, H2, kA.push u, c2, kvs ++ [kv], ?_, s1.trans sm2, ?_, ?_⟩
        · have J3 : Inv X pins σ H2 s2 := J2.pins_of fun p hp => J2.pin p (List.mem_append_right _ (by simp [hp]))
          obtain ⟨f0, f1, f2, f3, f4, f5⟩ := fpK H2 nK2
          have J4 := J3.turned (t' := s2.toks) (it := kS) (h' := s2.heap.update kS (Obj.mapSeq (·.push u))) (fun b o hb e => (sb.2 b hb).trans e) nK2 f1 f3 f4 f5
          exact pinned J4 nA2 nK2 ((sb.2 a0 hka.symm).trans na2) hc2
        · rw [Array.toList_push]; exact vk.append (.cons rk .nil)
        · have e2 : (bs.map key).take (j + 1) = (bs.map key).take j ++ [key bs[j]] := by
            rw [List.take_succ_eq_append_getElem (by rw [List.length_map]; exact hjb), List.getElem_map]
          rw [e2]
          exact (ak.mono (.of sm2)).append (.cons imk .nil)
  case done =>
    rintro s' ⟨H', kA, e, kvs, J, s1, vk, ak⟩
    have e3 : (bs.map key).take (0 + its.length) = bs.map key := List.take_of_length_le (by rw [List.length_map]; omega)
    rw [e3] at ak
    have J3 : Inv X pins σ H' s' := J.pins_of fun p hp => J.pin p (List.mem_append_right _ (by simp [hp]))
    have na := (J.pin (a0, seqObj "list" #[] e1) (List.mem_append_right _ (by simp))).1
    have nk := (J.pin (kS, seqObj "list" kA e) (List.mem_append_right _ (by simp))).1
    have nA' := (J.pin (a0, seqObj "list" #[] e1) (List.mem_append_right _ (by simp))).2.1
    have nK' := (J.pin (kS, seqObj "list" kA e) (List.mem_append_right _ (by simp))).2.1
    have ek := each_of (enc := key) (bs := bs) ak vk
    have er : EachIs (fun v d => ∃ as, Reads s'.heap v d as) kA.toList (bs.map key) := PySem.W.each_map key (ek.mono fun u b q => q.reads J3)
    have hks : kA.size = its.length := by
      have h1 := er.length
      rw [Array.length_toList, List.length_map] at h1
      omega
    have hsa : SortsAt X.prog X.w X.A.in1.in1 s' (dataKind s'.heap (bs.map key)) kA.toList := SortsAt.data er hal hsk fun d hdm => by
      obtain ⟨b, hb1, rfl⟩ := List.mem_map.mp hdm
      have := hd b hb1
      show X.A.units + 1 + 1 + _ < _
      omega
    try dsimp only
    refine wpAny_bind (listItems_at nk rfl ?_)
    refine keyH_end (κ := dataKind s'.heap (bs.map key)) (h₁ := PySem.W.hideAll s'.heap [kS]) (fun b o hb e => PySem.W.of_hideAll _ e) (PySem.W.hideAll_none _ (by simp)) nk na hka hsa hks (by rw [hil]; exact hz) fun h3 tk3 c kp3 na3 => ⟨rfl, ?_⟩
    have keep : ∀ b o, b ∉ [a0, kS] → s'.heap.get? b = some o → h3.get? b = some o := fun b o hb e => by
      simp only [List.mem_cons, List.not_mem_nil, or_false, not_or] at hb
      exact kp3 b o hb.1 (PySem.W.hideAll_get _ e (by simp [hb.2]))
    have J4 : Inv X pins σ H' { s' with heap := h3, toks := tk3 } := J3.turnedL (ch := [a0, kS]) keep fun b hb => by
      simp only [List.mem_cons, List.not_mem_nil, or_false] at hb
      rcases hb with rfl | rfl
      · exact fpA H' nA'
      · exact fpK H' nK'
    have ko : KeyedOut false (bs.map key) its (sortVals (dataKind s'.heap (bs.map key)) false kA.toList its) := ⟨s'.heap, kA.toList, hal, rfl, er⟩
    have eo := keyedOut_each key ko (each_of (al.mono (.of s1)) rv)
    obtain ⟨ys, y1, y2⟩ := each_back eo
    have hyl : ys.length ≤ sizeLine := by
      rw [y1.length, ko.length (by rw [List.length_map]; omega), hil]; exact hz
    have hyA : Tx H' (upd H' a0 (.lst ys)) := .new nA'
    have J5 := inv_track (o := .lst ys) J4 (fpA H' nA') (Nat.le_trans I.sz hAs) ⟨hyl, _, c, y1, na3⟩
    exact ⟨.ref a0, _, J5, rfl, q ys a0 _ nA (s1.trans (same_new nA')) upd_same (y2.mono hyA)⟩
end
section
variable {X : Cx} {Γ : Gm} {e : Expr} {p pos fp kp : Pos} {β : Type} {fn : Str}
/-- sorted(xs, key=f) -/
theorem pun_sortedK {k : Nat} {enc key : β → PyData} {bs : List β} {R : List Rs → Rs → Prop} (M : Mg X.mg) (D : Df X fn k (spU R)) (hr : Room (k + 1) X.A) (ha : Pu X Γ e (.l (bs.map enc))) (hR : ∀ b ∈ bs, R [.d (enc b)] (.d (key b)))
    (hal : AllAlike (bs.map key)) (hsk : Sortable (bs.map key)) (hd : ∀ b ∈ bs, (key b).depth ≤ 64) (hg : Gl X "sorted" := by rfl) (hgf : Gl X fn := by rfl) (hdf : (fn == ("__debug__" : Str)) = false := by decide)
    (he : backTo pos (starEach [e] X.env) = (false, eval e X.env) :: backTo pos (starEach [] X.env) := by rfl) (he2 : starEach [e] X.env = [(false, eval e X.env)] := by rfl) (hpl : (backTo pos (starEach [e] X.env)).any (·.1) = false := by rfl)
    (hall : (backToKw pos (keywordEach [⟨some "key", .Name fn fp, kp⟩] X.env)).all (·.1.isSome) = true := by rfl) (hnone : (backToKw pos (keywordEach [⟨some "key", .Name fn fp, kp⟩] X.env)).any (·.1.isNone) = false := by rfl)
    (hks : (backToKw pos (keywordEach [⟨some "key", .Name fn fp, kp⟩] X.env)).filterMap (·.1) = [Str.ofString "key"] := by rfl) :
    PuN X Γ (.Call (.Name "sorted" p) [e] [⟨some "key", .Name fn fp, kp⟩] pos) ((bs.mergeSort (dataLe false key)).map enc) := by
  obtain ⟨f, fd, ps, F, hm, hk, hb⟩ := D.ex
  intro σ H S Q q
  refine we_of (pe_callBK (cr_sortedK F hb hr) hg M.sorted (by decide +kernel) pa_wa (pk_cons (pe_glob hgf hm (v := .ref f) rfl hdf) pk_nil) (he := he) (hpl := hpl) (hall := hall) (hnone := hnone) (hks := hks)) ?_
  refine pua_cons ha pua_nil he2 σ H S _ fun vs H1 s1 a1 => ?_
  obtain ⟨v, rfl, a, rfl, xs, hp, al⟩ := at1 a1
  exact ⟨β, enc, key, bs, a, xs, rfl, rfl, SqL.of hp, al, hal, hsk, hd, fun b hb H' v Q' im k' => ⟨[.d (enc b)], .d (key b), .cons im .nil, hR b hb, k'⟩, fun ys np H' n s h1 h2 => q np H' (s1.free n) (s1.trans s) ⟨ys, h1, h2⟩⟩
end
end K47
/-! K5: dicts read, list.index, isinstance, chains, small built-ins. -/
namespace K47
open PySem PySem.Spec PyProof.Rows L2
/-! ### what a dict of the two kinds holds -/
def lkT (kvs : List (List Int × Int)) (s : List Int) : Option Int := (kvs.find? fun p => decide (p.1 = s)).map (·.2)
def lkK (kvs : List (Int × Int)) (k : Int) : Option Int := (kvs.find? fun p => decide (p.1 = k)).map (·.2)
theorem valV_encT (s : List Int) : ∀ kvs : List (List Int × Int), valV (encT kvs) (s.map Sum.inl) = (lkT kvs s).map V.int
  | [] => rfl
  | p :: r => by
    have ih := valV_encT s r
    by_cases h : p.1 = s
    · have e : (encT (p :: r)) = (p.1.map Sum.inl, V.int p.2) :: encT r := rfl
      rw [e, valV_pos (by rw [h])]
      unfold lkT
      rw [List.find?_cons_of_pos (by simp [h])]
      rfl
    · have e : (encT (p :: r)) = (p.1.map Sum.inl, V.int p.2) :: encT r := rfl
      rw [e, valV_neg (fun q => h (inl_map_inj q)), ih]
      unfold lkT
      rw [List.find?_cons_of_neg (by simp [h])]
theorem valV_encK (k : Int) : ∀ kvs : List (Int × Int), valV (encK kvs) (Sum.inl k) = (lkK kvs k).map V.int
  | [] => rfl
  | p :: r => by
    have ih := valV_encK k r
    by_cases h : p.1 = k
    · have e : (encK (p :: r)) = (Sum.inl p.1, V.int p.2) :: encK r := rfl
      rw [e, valV_pos (by rw [h])]
      unfold lkK
      rw [List.find?_cons_of_pos (by simp [h])]
      rfl
    · have e : (encK (p :: r)) = (Sum.inl p.1, V.int p.2) :: encK r := rfl
      rw [e, valV_neg (fun q => h (Sum.inl.inj q)), ih]
      unfold lkK
      rw [List.find?_cons_of_neg (by simp [h])]
theorem dgetT {H : Hp} {a b : Addr} {kvs : List (List Int × Int)} {s : List Int} (e : Rd H a (.dT (encT kvs))) (hb : H b = some (.tup (s.map V.int))) : DGet H a (.ref b) ((lkT kvs s).map V.int) :=
  .inr ⟨encT kvs, s.map Sum.inl, b, e, rfl, by rw [kv_ints]; exact hb, (valV_encT s kvs).symm⟩
theorem dgetK {H : Hp} {a : Addr} {kvs : List (Int × Int)} {k : Int} (e : Rd H a (.dK (encK kvs))) : DGet H a (.int k) ((lkK kvs k).map V.int) := .inl ⟨encK kvs, Sum.inl k, e, rfl, (valV_encK k kvs).symm⟩
def oD : Option Int → PyData
  | none => .none
  | some i => .int i
theorem im_oD {H : Hp} {o : Option Int} : Im H ((o.map V.int).getD .non) (oD o) := by
  cases o with
  | none => exact .non
  | some i => exact .int i
section
variable {X : Cx} {Γ : Gm} {pos p : Pos} {a b c e : Expr} {i j : Int}
/-- k in d, k not in d, d[k], tuples as keys -/
theorem pu_inT {kvs : List (List Int × Int)} {s : List Int} (hu : X.A.units + 1 < cLine) (ha : Pu X Γ a (.d (.tuple (s.map .int)))) (hb : Pu X Γ b (.t kvs)) (hm : behindInMarks .In b = false := by rfl) : Pu X Γ (.Compare a [.In] [b] pos) (.d (.bool (lkT kvs s).isSome)) := fun σ H S Q q =>
  we_of (pe_cmp (pc_din hu pe_we pe_we) hm) (ha σ H S _ fun x H1 s1 a1 => hb σ H1 (S.mono s1) _ fun y H2 s2 a2 => by
    obtain ⟨k, rfl, hk⟩ := Im.tup_ints (a1.mono s2)
    obtain ⟨d, rfl, hd⟩ := a2
    exact ⟨d, _, rfl, dgetT hd hk, by rw [Option.isSome_map]; exact q _ H2 (s1.trans s2) (.bl _)⟩)
theorem put_inT {kvs : List (List Int × Int)} {s : List Int} (hu : X.A.units + 1 < cLine) (ha : Pu X Γ a (.d (.tuple (s.map .int)))) (hb : Pu X Γ b (.t kvs)) (hm : behindInMarks .In b = false := by rfl) : PuT X Γ (.Compare a [.In] [b] pos) (lkT kvs s).isSome := fun σ H S Q q =>
  wt_of (pt_cmp (pc_din hu pe_we pe_we) hm) (ha σ H S _ fun x H1 s1 a1 => hb σ H1 (S.mono s1) _ fun y H2 s2 a2 => by
    obtain ⟨k, rfl, hk⟩ := Im.tup_ints (a1.mono s2)
    obtain ⟨d, rfl, hd⟩ := a2
    exact ⟨d, _, rfl, dgetT hd hk, _, rfl, by rw [Option.isSome_map]; exact q H2 (s1.trans s2)⟩)
theorem put_ninT {kvs : List (List Int × Int)} {s : List Int} (hu : X.A.units + 1 < cLine) (ha : Pu X Γ a (.d (.tuple (s.map .int)))) (hb : Pu X Γ b (.t kvs)) (hm : behindInMarks .NotIn b = false := by rfl) : PuT X Γ (.Compare a [.NotIn] [b] pos) (!(lkT kvs s).isSome) := fun σ H S Q q =>
  wt_of (pt_cmp (pc_dnotin hu pe_we pe_we) hm) (ha σ H S _ fun x H1 s1 a1 => hb σ H1 (S.mono s1) _ fun y H2 s2 a2 => by
    obtain ⟨k, rfl, hk⟩ := Im.tup_ints (a1.mono s2)
    obtain ⟨d, rfl, hd⟩ := a2
    exact ⟨d, _, rfl, dgetT hd hk, _, rfl, by rw [Option.isSome_map]; exact q H2 (s1.trans s2)⟩)
theorem pu_getT {kvs : List (List Int × Int)} {s : List Int} {v : Int} (hu : X.A.units + 1 < cLine) (ha : Pu X Γ a (.t kvs)) (hb : Pu X Γ b (.d (.tuple (s.map .int)))) (h : lkT kvs s = some v) (hs : NoSl b := by exact fun _ _ => rfl) : Pu X Γ (.Subscript a b pos) (.d (.int v)) := fun σ H S Q q =>
  we_of (pe_dget hu pe_we pe_we hs) (ha σ H S _ fun x H1 s1 a1 => hb σ H1 (S.mono s1) _ fun y H2 s2 a2 => by
    obtain ⟨d, rfl, hd⟩ := a1.mono s2
    obtain ⟨k, rfl, hk⟩ := Im.tup_ints a2
    have g := dgetT hd hk
    rw [h] at g
    exact ⟨d, _, rfl, g, q _ H2 (s1.trans s2) (.int _)⟩)
/-- ints as keys; None in d -/
theorem pu_getK {kvs : List (Int × Int)} {v : Int} (hu : X.A.units + 1 < cLine) (ha : Pu X Γ a (.k kvs)) (hb : Pu X Γ b (.d (.int i))) (h : lkK kvs i = some v) (hs : NoSl b := by exact fun _ _ => rfl) : Pu X Γ (.Subscript a b pos) (.d (.int v)) := fun σ H S Q q =>
  we_of (pe_dget hu pe_we pe_we hs) (ha σ H S _ fun x H1 s1 a1 => hb σ H1 (S.mono s1) _ fun y H2 s2 a2 => by
    obtain ⟨d, rfl, hd⟩ := a1.mono s2
    cases a2
    have g := dgetK (k := i) hd
    rw [h] at g
    exact ⟨d, _, rfl, g, q _ H2 (s1.trans s2) (.int _)⟩)
theorem put_inKN {kvs : List (Int × Int)} {o : Option Int} (hu : X.A.units + 1 < cLine) (ha : Pu X Γ a (.d (oD o))) (hb : Pu X Γ b (.k kvs)) (hm : behindInMarks .In b = false := by rfl) : PuT X Γ (.Compare a [.In] [b] pos) (o.bind (lkK kvs)).isSome := fun σ H S Q q =>
  wt_of (pt_cmp (pc_dinN hu pe_we pe_we) hm) (ha σ H S _ fun x H1 s1 a1 => hb σ H1 (S.mono s1) _ fun y H2 s2 a2 => by
    obtain ⟨d, rfl, hd⟩ := a2
    cases o with
    | none =>
      cases a1
      exact .inr ⟨d, _, rfl, rfl, hd, _, rfl, q H2 (s1.trans s2)⟩
    | some k =>
      cases a1
      exact .inl ⟨d, _, rfl, dgetK hd, _, rfl, by rw [Option.isSome_map]; exact q H2 (s1.trans s2)⟩)
theorem m1_of {o e : Expr} {m : Str} {apos cpos : Pos} (h1 : attributeBase o m X.env (eval o X.env) = eval o X.env) (h2 : (apos.endLine == cpos.line) = true) (h3 : backTo cpos (starEach [e] X.env) = [(false, eval e X.env)])
    (h4 : ((backTo cpos (starEach [e] X.env)).all (fun x => !x.1) && (backToKw cpos (keywordEach [] X.env)).all (fun x => x.1.isSome) && decide (([e] : List Expr).length + ([] : List Keyword).length + (if ([] : List Keyword).isEmpty then 0 else 1) < 30)) = true) : M1 X o m apos e cpos := ⟨h1, h4, h2, h3⟩
/-- d.get(k) -/
theorem pu_get1K {kvs : List (Int × Int)} {o : Expr} {apos : Pos} (hu : X.A.units + 1 < cLine) (ha : Pu X Γ o (.k kvs)) (hb : Pu X Γ e (.d (.int i))) (m : M1 X o "get" apos e pos := by exact ⟨rfl, rfl, rfl, rfl⟩) : Pu X Γ (.Call (.Attribute o "get" apos) [e] [] pos) (.d (oD (lkK kvs i))) := fun σ H S Q q =>
  we_of (pe_dget1 hu pe_we pe_we m) (ha σ H S _ fun x H1 s1 a1 => by
    obtain ⟨d, rfl, hd⟩ := a1
    refine ⟨d, rfl, .inl ⟨_, hd⟩, hb σ H1 (S.mono s1) _ fun y H2 s2 a2 => ?_⟩
    cases a2
    exact ⟨_, dgetK (rd_mono s2 hd), q _ H2 (s1.trans s2) im_oD⟩)
/-- d.get(k, x) -/
theorem pu_get2K {kvs : List (Int × Int)} {o f : Expr} {apos : Pos} (hu : X.A.units + 1 < cLine) (ha : Pu X Γ o (.k kvs)) (hb : Pu X Γ e (.d (.int i))) (hf : Pu X Γ f (.d (.int j))) (m : M2 X o "get" apos e f pos := by exact ⟨rfl, rfl, rfl, rfl⟩) :
    Pu X Γ (.Call (.Attribute o "get" apos) [e, f] [] pos) (.d (.int ((lkK kvs i).getD j))) := fun σ H S Q q =>
  we_of (pe_dget2 hu pe_we pe_we pe_we m) (ha σ H S _ fun x H1 s1 a1 => by
    obtain ⟨d, rfl, hd⟩ := a1
    refine ⟨d, rfl, .inl ⟨_, hd⟩, hb σ H1 (S.mono s1) _ fun y H2 s2 a2 => hf σ H2 (S.mono (s1.trans s2)) _ fun z H3 s3 a3 => ?_⟩
    cases a2
    cases a3
    refine ⟨_, dgetK (rd_mono s3 (rd_mono s2 hd)), ?_⟩
    have e : ((lkK kvs i).map V.int).getD (V.int j) = V.int ((lkK kvs i).getD j) := by cases lkK kvs i <;> rfl
    rw [e]
    exact q _ H3 ((s1.trans s2).trans s3) (.int _))
theorem pu_get2N {kvs : List (Int × Int)} {o f : Expr} {apos : Pos} (hu : X.A.units + 1 < cLine) (ha : Pu X Γ o (.k kvs)) (hb : Pu X Γ e (.d (.int i))) (hf : Pu X Γ f (.d .none)) (m : M2 X o "get" apos e f pos := by exact ⟨rfl, rfl, rfl, rfl⟩) :
    Pu X Γ (.Call (.Attribute o "get" apos) [e, f] [] pos) (.d (oD (lkK kvs i))) := fun σ H S Q q =>
  we_of (pe_dget2 hu pe_we pe_we pe_we m) (ha σ H S _ fun x H1 s1 a1 => by
    obtain ⟨d, rfl, hd⟩ := a1
    refine ⟨d, rfl, .inl ⟨_, hd⟩, hb σ H1 (S.mono s1) _ fun y H2 s2 a2 => hf σ H2 (S.mono (s1.trans s2)) _ fun z H3 s3 a3 => ?_⟩
    cases a2
    cases a3
    exact ⟨_, dgetK (rd_mono s3 (rd_mono s2 hd)), q _ H3 ((s1.trans s2).trans s3) im_oD⟩)
/-- a written dict with text keys: d.get(k, x) -/
theorem pe_kdget2 {o f : Expr} {apos : Pos} {td ty tx : TE} (ho : PE X o td) (he : PE X e ty) (hf : PE X f tx) (m : M2 X o "get" apos e f pos) : PE X (.Call (.Attribute o "get" apos) [e, f] [] pos)
    (fun σ H Q => td σ H fun x H1 => ∃ d es n, x = .ref d ∧ KDict X.K X.w d es n ∧ ty σ H1 fun y H2 => tx σ H2 fun z H3 => ∃ k r v, y = .str k ∧ PySem.W.nsIn X.K d k = some r ∧ (∀ u, RelV z u → RelV v (r.getD u)) ∧ Q v H3) := by
  refine ⟨fun pins s σ H Q I h => ?_⟩
  refine wpAny_Call_method m.base m.few m.line PySem.F.plainAttrs_dict PySem.F.slot_dict_get PySem.F.type_dict_get (thn (ho.run pins s σ H _ I h) fun u s1 ⟨x, H1, I1, rx, d, es, n, ex, D, q1⟩ => ?_)
  subst ex
  obtain rfl : u = Value.ref d := rx
  have mo := PySem.W.mapOf_K (prog := X.prog) (w := X.w) I1.kIn D.at_ D.lit
  refine ⟨mo.typeIs, mo.noDict, ?_⟩
  rw [m.trees]
  refine Calls.callWith_builtin rfl (Calls.evalArgs_plain (Calls.spliced_cons (thn (he.run pins s1 σ H1 _ I1 q1) fun iv s2 ⟨y, H2, I2, ry, q2⟩ =>
    Calls.spliced_cons (thn (hf.run pins s2 σ H2 _ I2 q2) fun fv s3 ⟨z, H3, I3, rz, k, r, v, ey, er, rv, q3⟩ => Calls.spliced_nil ?_))))
  subst ey
  obtain ⟨t, rfl⟩ := (show ∃ t, iv = Value.str k t from ry)
  have mo3 := PySem.W.mapOf_K (prog := X.prog) (w := X.w) I3.kIn D.at_ D.lit
  refine call_meetsIn PySem.F.slot_dict_get mo3.typeIs PySem.F.entry_dict_get (PySem.F.args_dict_get_3 _ _ _) (meets_dict_get_default (PySem.strKind X.prog X.w) d (PySem.strKind_is X.prog X.w k t) D.low fv) ⟨_, mo3, ?_⟩
  rw [PySem.W.find_K D.at_ er]
  exact ⟨v, H3, I3.tok _, rv fv rz, q3⟩
/-! ### comprehensions over a dict with tuple keys -/
theorem At.lock {H : Hp} {d : Addr} {od : Obj} {kvs : List (List L2.Key × V)} {r : Rs} {v : V} (h2 : At H v r) (hd : H d = some (.dT kvs)) : At (upd H d (.frz od (.dT kvs))) v r := by
  have tx : Tx H (upd H d (.frz od (.dT kvs))) := .mut hd fun _ z => by cases z
  induction r generalizing v with
  | f C x r ih =>
    obtain ⟨a, dx, fs, u, rfl, h1, h3, h4⟩ := h2
    exact ⟨a, dx, fs, u, rfl, by rw [upd_ne (ne_of h1 hd fun z => by cases z)]; exact h1, h3, ih h4⟩
  | b r s ih1 ih2 => exact ⟨ih1 h2.1, ih2 h2.2⟩
  | x φ m k => exact k _ _ _ _ _ hd h2
  | d x => exact Im.mono tx h2
  | l ds =>
    obtain ⟨a, rfl, vs, ha, al⟩ := h2
    exact ⟨a, rfl, vs, by rw [upd_ne (ne_of ha hd fun z => by cases z)]; exact ha, al.mono tx⟩
  | t ks =>
    obtain ⟨a, rfl, ha⟩ := h2
    refine ⟨a, rfl, ?_⟩
    by_cases had : a = d
    · subst had
      rcases ha with ha | ⟨o, ha⟩
      · rw [hd] at ha
        injection ha with ha
        injection ha with ha
        subst ha
        exact .inr ⟨od, upd_same⟩
      · rw [hd] at ha; cases ha
    · rcases ha with ha | ⟨o, ha⟩
      · exact .inl (by rw [upd_ne had]; exact ha)
      · exact .inr ⟨o, by rw [upd_ne had]; exact ha⟩
  | k ks =>
    obtain ⟨a, rfl, ha⟩ := h2
    refine ⟨a, rfl, ?_⟩
    rcases ha with ha | ⟨o, ha⟩
    · exact .inl (by rw [upd_ne (ne_of ha hd fun z => by cases z)]; exact ha)
    · exact .inr ⟨o, by rw [upd_ne (ne_of ha hd fun z => by cases z)]; exact ha⟩
theorem Sl.lock {H : Hp} {σ : L2.St} {Γ : Gm} {d : Addr} {od : Obj} {kvs : List (List L2.Key × V)} (S : Sl H σ Γ) (hd : H d = some (.dT kvs)) : Sl (upd H d (.frz od (.dT kvs))) σ Γ :=
  ⟨S.len, fun i r e => let ⟨v, h1, h2⟩ := S.at_ i r e; ⟨v, h1, h2.lock hd⟩⟩
/-- [elt for target in d if ..], d a name -/
theorem pun_lcT {kvs : List (List Int × Int)} {own : List (Str × Nat)} {g : TG} {tg elt : Expr} {ifs : List Expr} {scope : Scope} {x : Str} {np : Pos} (i : Nat) (pr : List Int × Int → Bool) (f : List Int × Int → PyData) (γ : List Int × Int → Gm) (hc : X.calm = true) (hN : X.N.Nodup)
    (hG : Γ[i]? = some (some (.t kvs))) (hz : kvs.length ≤ 100000) (hok : BlkOk X.N X.env.scope scope own) (hv : ∀ i ∈ own.map (·.2), ∀ r, Γ[i]? ≠ some (some r))
    (hg : ∀ s H C cl fp, PG (Blk X scope s H C cl fp) tg g) (hgd : ∀ x ∈ kvs, GD g (own.map (·.2)) (.tuple (x.1.map .int)) Γ (γ x))
    (ht : ∀ x ∈ kvs, ∀ s H C cl fp, PuTs (Blk X scope s H C cl fp) (γ x) ifs (pr x)) (he : ∀ x ∈ kvs, pr x = true → ∀ s H C cl fp, Pu (Blk X scope s H C cl fp) (γ x) elt (.d (f x)))
    (hNx : X.N[i]? = some x := by rfl) (hvis : Vis X.env.scope x := by first | exact Or.inl rfl | exact Or.inr (Or.inl rfl) | exact Or.inr (Or.inr rfl)) (hd : (x == ("__debug__" : Str)) = false := by decide) (hcd : (x == ("__classdict__" : Str)) = false := by decide)
    (hs : ∀ y, foldedSetIterable (.Name x np) X.env y = pure y := by intro _; rfl) :
    PuN X Γ (.ListComp elt [⟨tg, .Name x np, ifs, 0⟩] scope pos) ((kvs.filter pr).map f) := by
  intro σ H S Q q
  obtain ⟨v, hv1, d, rfl, hd1⟩ := S.at_ i _ hG
  have hlc := pe_lcOf (elt := elt) (ifs := ifs) (pos := pos) hc hN (pi_keys (tg := tg) (pe_var (pos := np) hNx hvis hd hcd)) hok hg hs
  -- the walk over the locked dict
  have walk : ∀ (H0 : Hp) (o : Obj), H0 d = some (.frz o (.dT (encT kvs))) → WalkAt (iKeys (tVar i)) σ H0 (kvs.map fun x => .tuple (x.1.map .int)) := by
    intro H0 o h0 R r
    refine ⟨.ref d, hv1, d, o, rfl, .inr ⟨encT kvs, h0, r _ H0 (fun H => H d = some (.frz o (.dT (encT kvs)))) (fun i H x H' => H' = H ∧ ∃ (k : List L2.Key) (v : V) (q : Addr), (encT kvs)[i]? = some (k, v) ∧ x = .ref q ∧ H q = some (.tup (k.map kV))) (Same.refl _) ?_ (fun H2 s2 => s2 _ _ h0) ?_⟩⟩
    · have e : (kvs.map fun x => PyData.tuple (x.1.map .int)).length = (encT kvs).length := by simp [encT]
      rw [e]
      exact walk_keysT
    · intro j H2 y H3 hj s2 hy
      obtain ⟨e1, k, w, b, h1, rfl, h2⟩ := hy
      subst e1
      rw [List.length_map] at hj
      have h1 : (kvs.map fun p => (p.1.map Sum.inl, V.int p.2))[j]? = some (k, w) := h1
      rw [List.getElem?_map, List.getElem?_eq_getElem hj] at h1
      have h1 : some (kvs[j].1.map Sum.inl, V.int kvs[j].2) = some (k, w) := h1
      cases h1
      refine ⟨Same.refl _, .tuple (kvs[j].1.map .int), by rw [List.getElem?_map, List.getElem?_eq_getElem hj]; rfl, ?_⟩
      rw [kv_ints] at h2
      exact Im.of_ints h2
  rcases hd1 with hd1 | ⟨o, hd1⟩
  · refine we_of (pe_lock hlc) ⟨d, _, hd1, True.intro, fun od => ?_⟩
    refine lc_go (xs := kvs) (enc := fun x => .tuple (x.1.map .int)) pr f γ (walk _ od upd_same) hz (S.lock hd1) hv hgd ht he fun p H' hp s' ls => ?_
    have hpd : p ≠ d := fun z => by rw [z, upd_same] at hp; cases hp
    rw [upd_ne hpd] at hp
    have hd' := s' d _ upd_same
    obtain ⟨vs, l1, l2⟩ := ls
    refine ⟨hd', q p _ hp (fun a u e => ?_) ⟨vs, by rw [upd_ne hpd]; exact l1, l2.mono fun a xs e => ?_⟩⟩
    · by_cases had : a = d
      · subst had
        rw [upd_same]
        rw [hd1] at e
        exact e
      · rw [upd_ne had]
        exact s' a u (by rw [upd_ne had]; exact e)
    · rw [upd_ne (fun z => by rw [z, hd'] at e; cases e)]; exact e
  · exact we_of hlc (lc_go (xs := kvs) (enc := fun x => .tuple (x.1.map .int)) pr f γ (walk _ o hd1) hz S hv hgd ht he q)
end
end K47
/-! K6: list.index, isinstance, chains, small built-ins, list(d.items()). -/
namespace K47
open PySem PySem.Spec PyProof.Rows L2
def tyD : PyData → String
  | .none => "NoneType"
  | .bool _ => "bool"
  | .int _ => "int"
  | .str _ => "str"
  | .tuple _ => "tuple"
  | .list _ => "list"
  | .dict _ => "dict"
theorem im_ty {K : PySem.W.Frag} {H : Hp} {v : V} {d : PyData} (a : Im H v d) : TyX K H v (.type (tyD d)) := by
  cases a with
  | non => exact .base .non
  | bl b => exact .base (.bl b)
  | int i => exact .base (.int i)
  | str x => exact .base (.str x)
  | tup h _ => exact .base (.tup h)
section
variable {X : Cx} {Γ : Gm} {pos p np : Pos} {a b c e : Expr} {i j k : Int}
theorem pu_isi {x : PyData} {T : Str} {t Ts : String} {r : Bool} (M : Mg X.mg) (ha : Pu X Γ e (.d x)) (ht : tyD x = t) (hT : X.mg T = none) (hb : bootBuiltins T = some (.type Ts)) (h : kitB t Ts = some r) (hg : Gl X "isinstance") (hgT : Gl X T)
    (hn : T ≠ "__name__") (hd : (T == ("__debug__" : Str)) = false)
    (he : starEach [e, .Name T np] X.env = (false, eval e X.env) :: starEach [.Name T np] X.env) (he2 : starEach [.Name T np] X.env = [(false, eval (.Name T np) X.env)]) (hpl : (backTo pos (starEach [.Name T np] X.env)).any (·.1) = false) :
    Pu X Γ (.Call (.Name "isinstance" p) [e, .Name T np] [] pos) (.d (.bool r)) := fun σ H S Q q =>
  we_of (pe_callB call_isi hg M.isinstance (by decide +kernel) (pa_cons pe_we (pa_cons (pe_bltn hgT hT hb (v := .ty Ts) rfl hn hd) pa_nil he2) he) (he := he) (hpl := hpl)) (ha σ H S _ fun v H1 s1 a1 =>
    ⟨v, .ty Ts, .type t, .type Ts, r, rfl, .ty Ts, by rw [← ht]; exact im_ty a1, kit_ty h, q _ H1 s1 (.bl _)⟩)
theorem isi_int (M : Mg X.mg) (ha : Pu X Γ e (.d (.int i))) (hg : Gl X "isinstance" := by rfl) (hgT : Gl X "int" := by rfl) (he : starEach [e, .Name "int" np] X.env = (false, eval e X.env) :: starEach [.Name "int" np] X.env := by rfl) (he2 : starEach [.Name "int" np] X.env = [(false, eval (.Name "int" np) X.env)] := by rfl) (hpl : (backTo pos (starEach [.Name "int" np] X.env)).any (·.1) = false := by rfl) :
    Pu X Γ (.Call (.Name "isinstance" p) [e, .Name "int" np] [] pos) (.d (.bool true)) := pu_isi (t := "int") (Ts := "int") M ha rfl M.int (by decide +kernel) (by decide +kernel) hg hgT (by decide) (by decide) he he2 hpl
theorem isi_bool (M : Mg X.mg) (ha : Pu X Γ e (.d (.int i))) (hg : Gl X "isinstance" := by rfl) (hgT : Gl X "bool" := by rfl) (he : starEach [e, .Name "bool" np] X.env = (false, eval e X.env) :: starEach [.Name "bool" np] X.env := by rfl) (he2 : starEach [.Name "bool" np] X.env = [(false, eval (.Name "bool" np) X.env)] := by rfl) (hpl : (backTo pos (starEach [.Name "bool" np] X.env)).any (·.1) = false := by rfl) :
    Pu X Γ (.Call (.Name "isinstance" p) [e, .Name "bool" np] [] pos) (.d (.bool false)) := pu_isi (t := "int") (Ts := "bool") M ha rfl M.bool (by decide +kernel) (by decide +kernel) hg hgT (by decide) (by decide) he he2 hpl
theorem isi_tuple {ds : List PyData} (M : Mg X.mg) (ha : Pu X Γ e (.d (.tuple ds))) (hg : Gl X "isinstance" := by rfl) (hgT : Gl X "tuple" := by rfl) (he : starEach [e, .Name "tuple" np] X.env = (false, eval e X.env) :: starEach [.Name "tuple" np] X.env := by rfl) (he2 : starEach [.Name "tuple" np] X.env = [(false, eval (.Name "tuple" np) X.env)] := by rfl) (hpl : (backTo pos (starEach [.Name "tuple" np] X.env)).any (·.1) = false := by rfl) :
    Pu X Γ (.Call (.Name "isinstance" p) [e, .Name "tuple" np] [] pos) (.d (.bool true)) := pu_isi (t := "tuple") (Ts := "tuple") M ha rfl M.tuple (by decide +kernel) (by decide +kernel) hg hgT (by decide) (by decide) he he2 hpl
theorem isi_str {x : Str} (M : Mg X.mg) (ha : Pu X Γ e (.d (.str x))) (hg : Gl X "isinstance" := by rfl) (hgT : Gl X "str" := by rfl) (he : starEach [e, .Name "str" np] X.env = (false, eval e X.env) :: starEach [.Name "str" np] X.env := by rfl) (he2 : starEach [.Name "str" np] X.env = [(false, eval (.Name "str" np) X.env)] := by rfl) (hpl : (backTo pos (starEach [.Name "str" np] X.env)).any (·.1) = false := by rfl) :
    Pu X Γ (.Call (.Name "isinstance" p) [e, .Name "str" np] [] pos) (.d (.bool true)) := pu_isi (t := "str") (Ts := "str") M ha rfl M.str (by decide +kernel) (by decide +kernel) hg hgT (by decide) (by decide) he he2 hpl
theorem isi_list {ds : List PyData} (M : Mg X.mg) (ha : Pu X Γ e (.l ds)) (hg : Gl X "isinstance" := by rfl) (hgT : Gl X "list" := by rfl)
    (he : starEach [e, .Name "list" np] X.env = (false, eval e X.env) :: starEach [.Name "list" np] X.env := by rfl) (he2 : starEach [.Name "list" np] X.env = [(false, eval (.Name "list" np) X.env)] := by rfl) (hpl : (backTo pos (starEach [.Name "list" np] X.env)).any (·.1) = false := by rfl) :
    Pu X Γ (.Call (.Name "isinstance" p) [e, .Name "list" np] [] pos) (.d (.bool true)) := fun σ H S Q q =>
  we_of (pe_callB call_isi hg M.isinstance (by decide +kernel) (pa_cons pe_we (pa_cons (pe_bltn hgT M.list (u := .type "list") (by decide +kernel) (v := .ty "list") rfl (by decide) (by decide)) pa_nil he2) he) (he := he) (hpl := hpl)) (ha σ H S _ fun v H1 s1 a1 => by
    obtain ⟨q1, rfl, vs, hp, _⟩ := a1
    exact ⟨.ref q1, .ty "list", .type "list", .type "list", true, rfl, .ty "list", .base (.lst hp), kit_ty (by decide +kernel), q _ H1 s1 (.bl _)⟩)
/-- i <= j <= k -/
theorem pu_chain (ha : Pu X Γ a (.d (.int i))) (hb : Pu X Γ b (.d (.int j))) (hc : Pu X Γ c (.d (.int k))) (hm : lastMarks [.LtE, .LtE] [b, c] = false := by with_unfolding_all rfl) : Pu X Γ (.Compare a [.LtE, .LtE] [b, c] pos) (.d (.bool (decide (i ≤ j) && decide (j ≤ k)))) := fun σ H S Q q =>
  we_of (pe_chain op_le op_le pe_we pe_we pe_we hm) (ha σ H S _ fun x H1 s1 a1 => hb σ H1 (S.mono s1) _ fun y H2 s2 a2 => by
    cases a1; cases a2
    refine ⟨i, j, rfl, rfl, _, rfl, ?_⟩
    by_cases h : i ≤ j
    · rw [decide_eq_true h]
      refine iteT (hc σ H2 (S.mono (s1.trans s2)) _ fun z H3 s3 a3 => ?_)
      cases a3
      refine ⟨j, k, rfl, rfl, ?_⟩
      have e : (decide (i ≤ j) && decide (j ≤ k)) = decide (j ≤ k) := by simp [h]
      rw [e] at q
      exact q _ H3 ((s1.trans s2).trans s3) (.bl _)
    · rw [decide_eq_false h]
      have e : (decide (i ≤ j) && decide (j ≤ k)) = false := by simp [h]
      rw [e] at q
      exact iteF (q _ H2 (s1.trans s2) (.bl _)))
theorem put_chain (ha : Pu X Γ a (.d (.int i))) (hb : Pu X Γ b (.d (.int j))) (hc : Pu X Γ c (.d (.int k))) (hm : lastMarks [.LtE, .LtE] [b, c] = false := by with_unfolding_all rfl) : PuT X Γ (.Compare a [.LtE, .LtE] [b, c] pos) (decide (i ≤ j) && decide (j ≤ k)) := fun σ H S Q q =>
  wt_of (pt_chain op_le op_le pe_we pe_we pe_we hm) (ha σ H S _ fun x H1 s1 a1 => hb σ H1 (S.mono s1) _ fun y H2 s2 a2 => by
    cases a1; cases a2
    refine ⟨i, j, rfl, rfl, _, rfl, ?_⟩
    by_cases h : i ≤ j
    · rw [decide_eq_true h]
      refine iteT (hc σ H2 (S.mono (s1.trans s2)) _ fun z H3 s3 a3 => ?_)
      cases a3
      refine ⟨j, k, rfl, rfl, _, rfl, ?_⟩
      have e : (decide (i ≤ j) && decide (j ≤ k)) = decide (j ≤ k) := by simp [h]
      rw [e] at q
      exact q H3 ((s1.trans s2).trans s3)
    · rw [decide_eq_false h]
      have e : (decide (i ≤ j) && decide (j ≤ k)) = false := by simp [h]
      rw [e] at q
      exact iteF ⟨_, rfl, q H2 (s1.trans s2)⟩)
/-- l.index(x): the first place of an equal one -/
theorem pu_index {o : Expr} {apos : Pos} {d : PyData} {ds : List PyData} {n : Nat} {z : PyData} (hu : X.A.units + 65 < cLine) (ho : Pu X Γ o (.l ds)) (he : Pu X Γ e (.d d)) (h1 : SeqAt.shaped (.list ds) = true) (h2 : SeqAt.shaped d = true)
    (h3 : ds[n]? = some z) (h4 : PyData.eqv z d = true) (h5 : ∀ (m : Nat) (z' : PyData), m < n → ds[m]? = some z' → PyData.eqv z' d = false)
    (hbase : attributeBase o "index" X.env (eval o X.env) = eval o X.env := by rfl)
    (hfew : ((backTo pos (starEach [e] X.env)).all (fun x => !x.1) && (backToKw pos (keywordEach [] X.env)).all (fun x => x.1.isSome)
      && decide (([e] : List Expr).length + ([] : List Keyword).length + (if ([] : List Keyword).isEmpty then 0 else 1) < 30)) = true := by rfl)
    (hline : (apos.endLine == pos.line) = true := by rfl) (hs : starEach [e] X.env = (false, eval e X.env) :: starEach [] X.env := by rfl) (hplain : (backTo pos (starEach [] X.env)).any (·.1) = false := by rfl) :
    Pu X Γ (.Call (.Attribute o "index" apos) [e] [] pos) (.d (.int (n : Nat))) := fun σ H S Q q =>
  we_of (pe_bm PySem.F.plainAttrs_list PySem.F.slot_list_index PySem.F.type_list_index (mt_indexD hu) pe_we pa_wa hbase hfew hline hs hplain) (ho σ H S _ fun x H1 s1 a1 => by
    obtain ⟨q1, rfl, vs, hp, al⟩ := a1
    refine ⟨.inl ⟨rfl, vs, SqL.of hp⟩, pua_cons he pua_nil hs σ H1 (S.mono s1) _ fun xs H2 s2 a2 => ?_⟩
    obtain ⟨y, rfl, ay⟩ := at1 a2
    exact ⟨q1, y, d, ds, n, z, rfl, rfl, (Ls.mono s2 ⟨vs, hp, al⟩).dp, Im.dp ay, h1, h2, h3, h4, h5, q _ H2 (s1.trans s2) (.int _)⟩)
variable (M : Mg X.mg)
include M
theorem pu_max2 (hc : X.calm = true) (ha : Pu X Γ a (.d (.int i))) (hb : Pu X Γ b (.d (.int j))) (hg : Gl X "max" := by rfl) (he : starEach [a, b] X.env = [(false, eval a X.env), (false, eval b X.env)] := by rfl) (he2 : starEach [b] X.env = [(false, eval b X.env)] := by rfl) (hpl : (backTo pos (starEach [b] X.env)).any (·.1) = false := by rfl) :
    Pu X Γ (.Call (.Name "max" p) [a, b] [] pos) (.d (.int (max i j))) :=
  pu_cB (call_max2 hc) M.max (by decide +kernel) (fun H xs ax Q q => by
    obtain ⟨v, w, rfl, a1, a2⟩ := at2 ax
    cases a1; cases a2
    refine ⟨i, j, rfl, ?_⟩
    have e : (if j > i then j else i) = max i j := by split <;> omega
    rw [e]
    exact q _ H (Same.refl H) (.int _)) (pua_cons ha (pua_cons hb pua_nil he2) (by rw [he, he2])) hg (he := by rw [he, he2]) (hpl := hpl)
theorem pu_min2 (hc : X.calm = true) (ha : Pu X Γ a (.d (.int i))) (hb : Pu X Γ b (.d (.int j))) (hg : Gl X "min" := by rfl) (he : starEach [a, b] X.env = [(false, eval a X.env), (false, eval b X.env)] := by rfl) (he2 : starEach [b] X.env = [(false, eval b X.env)] := by rfl) (hpl : (backTo pos (starEach [b] X.env)).any (·.1) = false := by rfl) :
    Pu X Γ (.Call (.Name "min" p) [a, b] [] pos) (.d (.int (min i j))) :=
  pu_cB (call_min2 hc) M.min (by decide +kernel) (fun H xs ax Q q => by
    obtain ⟨v, w, rfl, a1, a2⟩ := at2 ax
    cases a1; cases a2
    refine ⟨i, j, rfl, ?_⟩
    have e : (if j < i then j else i) = min i j := by split <;> omega
    rw [e]
    exact q _ H (Same.refl H) (.int _)) (pua_cons ha (pua_cons hb pua_nil he2) (by rw [he, he2])) hg (he := by rw [he, he2]) (hpl := hpl)
theorem pu_abs (ha : Pu X Γ a (.d (.int i))) (hg : Gl X "abs" := by rfl) (he : starEach [a] X.env = [(false, eval a X.env)] := by rfl) : Pu X Γ (.Call (.Name "abs" p) [a] [] pos) (.d (.int i.natAbs)) :=
  pu_cB call_abs M.abs (by decide +kernel) (fun H xs ax Q q => by
    obtain ⟨v, rfl, a1⟩ := at1 ax
    cases a1
    refine ⟨i, rfl, ?_⟩
    have e : (if i < 0 then -i else i) = ((i.natAbs : Nat) : Int) := by split <;> omega
    rw [e]
    exact q _ H (Same.refl H) (.int _)) (pua_cons ha pua_nil he) hg (he := he)
theorem pu_intI (ha : Pu X Γ a (.d (.int i))) (hg : Gl X "int" := by rfl) (he : starEach [a] X.env = [(false, eval a X.env)] := by rfl) : Pu X Γ (.Call (.Name "int" p) [a] [] pos) (.d (.int i)) :=
  pu_cT call_int1 M.int (by decide +kernel) (fun H xs ax Q q => by
    obtain ⟨v, rfl, a1⟩ := at1 ax
    cases a1
    exact .inl ⟨i, rfl, q _ H (Same.refl H) (.int _)⟩) (pua_cons ha pua_nil he) hg (he := he)
theorem pu_intB {r : Bool} (ha : Pu X Γ a (.d (.bool r))) (hg : Gl X "int" := by rfl) (he : starEach [a] X.env = [(false, eval a X.env)] := by rfl) : Pu X Γ (.Call (.Name "int" p) [a] [] pos) (.d (.int (if r then 1 else 0))) :=
  pu_cT call_int1 M.int (by decide +kernel) (fun H xs ax Q q => by
    obtain ⟨v, rfl, a1⟩ := at1 ax
    cases a1
    exact .inr ⟨r, rfl, q _ H (Same.refl H) (.int _)⟩) (pua_cons ha pua_nil he) hg (he := he)
omit M
theorem pun_rep {ds : List PyData} {n : Nat} (ha : Pu X Γ a (.l ds)) (hb : Pu X Γ b (.d (.int n))) (hz : ds.length * n ≤ 1000) (hn : n ≤ 1000) : PuN X Γ (.BinOp a .Mult b pos) (List.replicate n ds).flatten := fun σ H S Q q =>
  we_of (pe_op op_rep pe_we pe_we) (ha σ H S _ fun x H1 s1 a1 => hb σ H1 (S.mono s1) _ fun y H2 s2 a2 => by
    obtain ⟨q1, rfl, vs, hp, al⟩ := a1.mono s2
    cases a2
    have hl := al.length
    refine ⟨q1, (n : Int), vs, rfl, rfl, hp, by omega, by omega, ?_, fun np hnp => ?_⟩
    · rw [Int.toNat_natCast, hl]
      exact Nat.le_trans hz (by decide)
    · refine q np _ ((s1.trans s2).free hnp) ((s1.trans s2).trans (same_new hnp)) ⟨_, upd_same, ?_⟩
      rw [Int.toNat_natCast]
      have rep : ∀ m : Nat, ImAll H2 (List.replicate m vs).flatten (List.replicate m ds).flatten := by
        intro m
        induction m with
        | zero => exact .nil
        | succ m ih => rw [List.replicate_succ, List.replicate_succ, List.flatten_cons, List.flatten_cons]; exact al.append ih
      exact (rep n).mono (.new hnp))
/-- an expression by its truth -/
theorem put_truT {ds : List PyData} (ha : Pu X Γ a (.d (.tuple ds))) (he : ∀ whole, isTrue a X.env whole = (do let v ← whole; standAt a.pos; holding [v] (truthy v)) := by intro _; rfl) : PuT X Γ a (!ds.isEmpty) := fun σ H S Q q =>
  wt_of (pt_truth pe_we he) (ha σ H S _ fun x H1 s1 a1 => by
    cases a1 with
    | tup hp al => exact ⟨_, .inr (.inl ⟨_, SqT.of hp, by cases al <;> rfl⟩), q H1 s1⟩)
theorem put_truL {ds : List PyData} (ha : Pu X Γ a (.l ds)) (he : ∀ whole, isTrue a X.env whole = (do let v ← whole; standAt a.pos; holding [v] (truthy v)) := by intro _; rfl) : PuT X Γ a (!ds.isEmpty) := fun σ H S Q q =>
  wt_of (pt_truth pe_we he) (ha σ H S _ fun x H1 s1 a1 => by
    obtain ⟨q1, rfl, vs, hp, al⟩ := a1
    exact ⟨_, .inl ⟨_, SqL.of hp, by cases al <;> rfl⟩, q H1 s1⟩)
end
/-! ### list(d.items()), tuples as keys -/
section
variable {X : Cx} {e : Expr} {te : TE} {p apos cpos pos : Pos}
def putTT : Hp → List Addr → List (V × V) → Hp
  | H, a :: as, p :: ps => putTT (upd H a (.tup [p.1, p.2])) as ps
  | H, _, _ => H
theorem putTT_off {b : Addr} : ∀ (as : List Addr) (ps : List (V × V)) (H : Hp), b ∉ as → putTT H as ps b = H b
  | [], _, _, _ => by cases ‹List (V × V)› <;> rfl
  | _ :: _, [], _, _ => rfl
  | a :: as, p :: ps, H, h => by
    simp only [List.mem_cons, not_or] at h
    show putTT (upd H a (.tup [p.1, p.2])) as ps b = H b
    rw [putTT_off as ps _ h.2, upd_ne h.1]
theorem putTT_at : ∀ (as : List Addr) (ps : List (V × V)) (H : Hp), as.length = ps.length → as.Nodup → ∀ (j : Nat) (a : Addr) (p : V × V), as[j]? = some a → ps[j]? = some p → putTT H as ps a = some (.tup [p.1, p.2])
  | [], _, _, _, _, j, a, p, h, _ => by simp at h
  | _ :: _, [], _, h, _, _, _, _, _, _ => by simp at h
  | a :: as, p :: ps, H, hl, nd, 0, a', p', h1, h2 => by
    have e1 : a = a' := by simpa using h1
    have e2 : p = p' := by simpa using h2
    subst e1 e2
    show putTT (upd H a (.tup [p.1, p.2])) as ps a = _
    rw [putTT_off as ps _ (List.nodup_cons.mp nd).1, upd_same]
  | a :: as, p :: ps, H, hl, nd, j + 1, a', p', h1, h2 => putTT_at as ps _ (by simpa using hl) (List.nodup_cons.mp nd).2 j a' p' (by simpa using h1) (by simpa using h2)
theorem kt_at {H : Hp} : ∀ {kvs : List (List L2.Key × V)} {xs : List (List L2.Key × Addr × Value)} {j : Nat} {x : List L2.Key × V}, Paired (fun (p : List L2.Key × V) (q : List L2.Key × Addr × Value) => p.1 = q.1 ∧ H q.2.1 = some (.tup (p.1.map kV)) ∧ RelV p.2 q.2.2) kvs xs → kvs[j]? = some x →
    ∃ y, xs[j]? = some y ∧ x.1 = y.1 ∧ H y.2.1 = some (.tup (x.1.map kV)) ∧ RelV x.2 y.2.2
  | _, _, _, _, .nil, h => by simp at h
  | _, _, 0, _, .cons r _, h => by simp at h; subst h; exact ⟨_, rfl, r⟩
  | _, _, j + 1, _, .cons _ t, h => by
    obtain ⟨y, h1, h2⟩ := kt_at (j := j) t (by simpa using h)
    exact ⟨y, by simpa using h1, h2⟩
def rItemsLT : V → Hp → VK → Prop := fun x H Q => ∃ (d : Addr) (kvs : List (List Int × Int)), x = .ref d ∧ H d = some (.dT (encT kvs)) ∧ ∀ p H', H p = none → Same H H' → Ls H' p (kvs.map eTI) → Q (.ref p) H'
theorem pe_listItemsT (hc : X.calm = true) (he : PE X e te) (hg : Gl X "list") (hm : X.mg "list" = none) (hv : bootBuiltins "list" = some (.type "list")) (hbase : attributeBase e "items" X.env (eval e X.env) = eval e X.env := by rfl) (hline : (apos.endLine == cpos.line) = true := by rfl)
    (hs : starEach [.Call (.Attribute e "items" apos) [] [] cpos] X.env = (false, eval (.Call (.Attribute e "items" apos) [] [] cpos) X.env) :: starEach [] X.env := by rfl) :
    PE X (.Call (.Name "list" p) [.Call (.Attribute e "items" apos) [] [] cpos] [] pos) (fun σ H Q => te σ H fun x H1 => rItemsLT x H1 Q) := by
  refine ⟨fun pins s σ H Q I hq => ?_⟩
  refine wpAny_Call_Name_kw (ld_blt I hg hm hv ?_)
  refine PyProof.Rows.callWith_type1 ?_ hs rfl
  rw [hs]
  show wpAny _ _ (spliced ((false, eval (.Call (.Attribute e "items" apos) [] [] cpos) X.env) :: backTo pos (starEach [] X.env))) _ _ s
  refine Calls.spliced_cons ?_
  refine wpAny_Call_method (T := "dict") (id := "dict.items") hbase rfl hline F.plainAttrs_dict F.slot_dict_items F.type_dict_items (thn (he.run pins s σ H _ I hq) fun u s1 ⟨x, H1, I1, rx, d, kvs, ex, hd, q⟩ => ?_)
  subst ex
  obtain rfl : u = Value.ref d := rx
  obtain ⟨hz, hs0, xs, kt, o, es, ep, ho, hx, hdat, hes, hnd⟩ := I1.hok d _ hd
  have raw : s1.heap.DictRaw d es ep := ⟨o, ho, hx, hdat⟩
  have hesl : es.size = kvs.length := by
    have h1 : es.toList.length = xs.length := by rw [hes, List.length_map]
    have h2 := Paired.length kt
    have h3 : (encT kvs).length = kvs.length := by simp [encT]
    rw [Array.length_toList] at h1
    omega
  have hkz : kvs.length ≤ sizeLine := by have h3 : (encT kvs).length = kvs.length := by simp [encT]
                                         omega
  have I2 : Inv X pins σ H1 { s1 with heap := s1.heap.push { cls := .type "dict_items", data := .fields #[.ref d] } } := I1.kept (t' := s1.toks) fun b ob q => Heap.get?_push_of_some _ q
  refine ⟨raw.typeIs, fun b z => by cases z; exact ⟨o, ho, hx.2.1⟩, ?_⟩
  show wpAny _ _ (callWith cpos (.builtin "dict.items") [.ref d] [] []) _ X.xe s1
  refine Calls.callWith_builtin rfl (PySem.evalArgs_none (DT.callItems hs0 raw ?_))
  refine Calls.spliced_nil ?_
  refine PySem.W.dil_call (es := es) (ep := ep) (I1.ok.hd hc) ⟨_, Heap.get?_push_size _ rfl, rfl, rfl⟩ (raw.at fun _ e => Heap.get?_push_of_some _ e) (by rw [hesl]; exact hkz) fun h' tk acc c as hk hS hl hG hacc => ?_
  generalize hs2 : ({ s1 with heap := s1.heap.push { cls := .type "dict_items", data := .fields #[.ref d] } } : Shared) = s2 at *
  have hxl : xs.length = kvs.length := by
    have h2 := Paired.length kt
    have h3 : (encT kvs).length = kvs.length := by simp [encT]
    omega
  have hal : as.length = kvs.length := by rw [hl, hesl]
  -- the pairs as values
  obtain ⟨ps, hpl, hps⟩ : ∃ ps : List (V × V), ps.length = kvs.length ∧ ∀ (j : Nat) (q : List L2.Key × Addr × Value) (r : List Int × Int), xs[j]? = some q → kvs[j]? = some r → ps[j]? = some (.ref q.2.1, .int r.2) := by
    refine ⟨(xs.zip kvs).map fun z => (V.ref z.1.2.1, V.int z.2.2), by rw [List.length_map, List.length_zip]; omega, fun j q r h1 h2 => ?_⟩
    rw [List.getElem?_map, (List.getElem?_zip_eq_some (z := (q, r))).mpr ⟨h1, h2⟩]
    rfl
  have nd : as.Nodup := List.Pairwise.imp (fun {a b} (h : a < b) => Nat.ne_of_lt h) hG.rise
  have hSn : s2.heap.objs.size ∉ as := fun z => Nat.lt_irrefl _ (hG.above _ z)
  have new : ∀ t ∈ as, H1 t = none := fun t ht => I2.hok.fresh (Nat.le_of_lt (hG.above t ht))
  have newS : H1 s2.heap.objs.size = none := I2.hok.fresh (Nat.le_refl _)
  have atP := putTT_at as ps (upd H1 s2.heap.objs.size (.lst (as.map V.ref))) (by omega) nd
  have off : ∀ b, b ∉ as → b ≠ s2.heap.objs.size → putTT (upd H1 s2.heap.objs.size (.lst (as.map V.ref))) as ps b = H1 b := fun b h1 h2 => by rw [putTT_off as ps _ h1, upd_ne h2]
  have low : ∀ b o, s2.heap.get? b = some o → b ∉ as ∧ b ≠ s2.heap.objs.size := fun b o e => ⟨fun z => absurd (Heap.lt_size e) (Nat.not_lt.mpr (Nat.le_of_lt (hG.above b z))), Nat.ne_of_lt (Heap.lt_size e)⟩
  have kp : ∀ b u, H1 b = some u → (putTT (upd H1 s2.heap.objs.size (.lst (as.map V.ref))) as ps) b = some u := fun b u e => by
    rw [off b (fun z => by rw [new b z] at e; cases e) (fun z => by rw [z, newS] at e; cases e)]
    exact e
  have eS : putTT (upd H1 s2.heap.objs.size (.lst (as.map V.ref))) as ps s2.heap.objs.size = some (.lst (as.map V.ref)) := by rw [putTT_off as ps _ hSn, upd_same]
  have kat : ∀ (j : Nat) (h : j < kvs.length), ∃ y, xs[j]? = some y ∧ kvs[j].1.map Sum.inl = y.1 ∧ H1 y.2.1 = some (.tup (kvs[j].1.map V.int)) ∧ RelV (.int kvs[j].2) y.2.2 := by
    intro j h
    obtain ⟨y, h1, h2, h3, h4⟩ := kt_at (j := j) (x := (kvs[j].1.map Sum.inl, V.int kvs[j].2)) kt (by show (kvs.map _)[j]? = _; rw [List.getElem?_map, List.getElem?_eq_getElem h]; rfl)
    rw [kv_ints] at h3
    exact ⟨y, h1, h2, h3, h4⟩
  have J : Inv X pins σ (putTT (upd H1 s2.heap.objs.size (.lst (as.map V.ref))) as ps) { s2 with heap := h', toks := tk } := by
    refine I2.call' (ch := []) rfl ⟨fun b o q _ _ _ => hk b o q, fun b o q _ _ _ => ⟨o.slots, hk b o q⟩, fun b o q n _ => ?_, fun b o q _ => ⟨o, hk b o q⟩, fun b xs q => kp b _ q, fun b o u q => kp b _ q, fun b ps q => ⟨#[], by rw [kp b _ q]; simp⟩⟩ (fun b u q => ?_) I2.bare fun b z => by simp at z
    · obtain ⟨z1, z2⟩ := low b o q
      rw [off b z1 z2]
      exact n
    · by_cases hb : b ∈ as
      · obtain ⟨j, hj⟩ := List.getElem?_of_mem hb
        have hjl : j < kvs.length := by rw [← hal]; exact (List.getElem?_eq_some_iff.mp hj).1
        obtain ⟨y, h1, h2, h3, h4⟩ := kat j hjl
        have hp := hps j y kvs[j] h1 (List.getElem?_eq_getElem hjl)
        rw [atP j b _ hj hp] at q
        cases q
        obtain ⟨hje, hob⟩ := hG.pairs j b hj
        have he : es[j] = entryOfKey (tupleKind (mixKind X.prog X.w)) y := by
          have e1 : es.toList[j]? = some (entryOfKey (tupleKind (mixKind X.prog X.w)) y) := by rw [hes, List.getElem?_map, h1]; rfl
          rw [Array.getElem?_toList, Array.getElem?_eq_getElem hje] at e1
          exact Option.some.inj e1
        rw [he] at hob
        exact ⟨by show 2 ≤ sizeLine; decide, [.ref y.2.1, y.2.2], .cons rfl (.cons h4 .nil), ⟨_, hob, rfl, _, rfl⟩⟩
      · by_cases hb2 : b = s2.heap.objs.size
        · rw [hb2] at q ⊢
          rw [eS] at q
          cases q
          refine ⟨by rw [List.length_map]; omega, acc.toList, c, by rw [hacc]; exact LiI.vals_refs as, ?_⟩
          rw [Array.toArray_toList]
          exact hS
        · rw [off b hb hb2] at q
          exact (I2.hok b u q).stay (fun d v _ y => hk d v y) (fun d y => kp d _ y) fun d xs y => kp d _ y
  refine ⟨.ref _, _, J, rfl, q _ _ newS kp ⟨as.map V.ref, eS, ?_⟩⟩
  have all : ∀ (n : Nat), n ≤ kvs.length → ImAll (putTT (upd H1 s2.heap.objs.size (.lst (as.map V.ref))) as ps) ((as.take n).map V.ref) ((kvs.take n).map eTI) := by
    intro n
    induction n with
    | zero => intro _; simpa using ImAll.nil
    | succ n ih =>
      intro hn
      have hjl : n < kvs.length := by omega
      obtain ⟨y, h1, h2, h3, h4⟩ := kat n hjl
      have ha : as[n]? = some as[n] := List.getElem?_eq_getElem (by omega)
      have hp := hps n y kvs[n] h1 (List.getElem?_eq_getElem hjl)
      rw [List.take_succ_eq_append_getElem (by omega), List.take_succ_eq_append_getElem hjl, List.map_append, List.map_append]
      refine (ih (by omega)).append (.cons ?_ .nil)
      exact .tup (atP n _ _ ha hp) (.cons (Im.of_ints (kp _ _ h3)) (.cons (.int _) .nil))
  have := all kvs.length (Nat.le_refl _)
  rw [List.take_of_length_le (Nat.le_refl _), List.take_of_length_le (by omega)] at this
  exact this
theorem pun_itemsT {Γ : Gm} {kvs : List (List Int × Int)} {x : Str} {np : Pos} (i : Nat) (M : Mg X.mg) (hc : X.calm = true) (hNx : X.N[i]? = some x) (hvis : Vis X.env.scope x) (hx : ∀ (σ : L2.St) (H : Hp), Sl H σ Γ → ∃ d, σ[i]? = some (some (.ref d)) ∧ H d = some (.dT (encT kvs)))
    (hg : Gl X "list" := by rfl) (hbase : attributeBase (.Name x np) "items" X.env (eval (.Name x np) X.env) = eval (.Name x np) X.env := by rfl) (hline : (apos.endLine == cpos.line) = true := by rfl) (hd : (x == ("__debug__" : Str)) = false := by decide) (hcd : (x == ("__classdict__" : Str)) = false := by decide)
    (hs : starEach [.Call (.Attribute (.Name x np) "items" apos) [] [] cpos] X.env = (false, eval (.Call (.Attribute (.Name x np) "items" apos) [] [] cpos) X.env) :: starEach [] X.env := by rfl) :
    PuN X Γ (.Call (.Name "list" p) [.Call (.Attribute (.Name x np) "items" apos) [] [] cpos] [] pos) (kvs.map eTI) := fun σ H S Q q => by
  obtain ⟨d, h1, h2⟩ := hx σ H S
  exact we_of (pe_listItemsT hc (pe_var hNx hvis hd hcd) hg M.list (by decide +kernel) hbase hline hs) ⟨.ref d, h1, d, kvs, rfl, h2, q⟩
end
end K47
/-! K7: list comprehensions in short. -/
namespace K47
open PySem PySem.Spec PyProof.Rows L2
/-- a comprehension that gives a new list of ds -/
def LcD (X : Cx) (Γ : Gm) (elt tg iter : Expr) (ifs : List Expr) (scope : Scope) (ds : List PyData) : Prop := ∃ (wi : TI) (g : TG) (own : List (Str × Nat)), X.calm = true ∧ X.N.Nodup ∧ PI X tg iter wi ∧ BlkOk X.N X.env.scope scope own ∧ (∀ s H C cl fp, PG (Blk X scope s H C cl fp) tg g) ∧ (∀ x, foldedSetIterable iter X.env x = pure x) ∧
  ∀ (σ : L2.St) (H : Hp), Sl H σ Γ → ∀ Q : VK, (∀ p H', H p = none → Same H H' → Ls H' p ds → Q (.ref p) H') → tLc wi g (ttOf X scope ifs) (teOf X scope elt) (own.map (·.2)) σ H Q
section
variable {X : Cx} {Γ : Gm} {tg iter elt : Expr} {ifs : List Expr} {scope : Scope} {pos : Pos} {ds : List PyData} {α : Type}
theorem LcD.to {ds' : List PyData} (h : LcD X Γ elt tg iter ifs scope ds) (e : ds = ds') : LcD X Γ elt tg iter ifs scope ds' := e ▸ h
theorem LcD.pun (h : LcD X Γ elt tg iter ifs scope ds) : PuN X Γ (.ListComp elt [⟨tg, iter, ifs, 0⟩] scope pos) ds := by
  obtain ⟨wi, g, own, hc, hN, hi, hok, hg, hs, hq⟩ := h
  exact fun σ H S Q q => we_of (pe_lcOf hc hN hi hok hg hs) (hq σ H S Q q)
theorem LcD.set {y : Str} {py spos : Pos} {D : Ends} {σ : L2.St} {H : Hp} (i : Nat) (h : LcD X Γ elt tg iter ifs scope ds) (S : Sl H σ Γ) (hy : X.N[i]? = some y) (hyl : X.env.scope.names.lookup y = some .local)
    (hsw : swapsWith (.ListComp elt [⟨tg, iter, ifs, 0⟩] scope pos) (some (.Name y py)) spos.line X.env = pure true) (q : ∀ p H', H p = none → Same H H' → Ls H' p ds → D.nx (σ.set i (some (.ref p))) H') : WS X (.Assign [.Name y py] (.ListComp elt [⟨tg, iter, ifs, 0⟩] scope pos) spos) D σ H := by
  obtain ⟨wi, g, own, hc, hN, hi, hok, hg, hs, hq⟩ := h
  exact ws_of (ps_setLc hc hN hy hyl hsw hi hok hg (fun s H C cl fp => ⟨fun pins s' σ H' Q I h => h s H C cl fp pins s' I⟩) (fun s H C cl fp => ⟨fun pins s' σ H' Q I h => h s H C cl fp pins s' I⟩) hs) (hq σ H S _ q)
/-- y = [..], y a local -/
theorem go_setLc {y : Str} {py spos : Pos} {sts : List Stmt} {r : Rs} (i : Nat) (h : LcD X Γ elt tg iter ifs scope ds) (h2 : Go X (Γ.set i (some (.l ds))) sts r) (hy : X.N[i]? = some y := by rfl) (hyl : X.env.scope.names.lookup y = some .local := by rfl)
    (hk : X.env.scope.kind = .function := by rfl) (hl : (py.line == pos.line) = true := by rfl) (ha : (scope.names.any fun (n, k) => n == y && (k == .local || k == .cell)) = false := by decide +kernel) : Go X Γ (.Assign [.Name y py] (.ListComp elt [⟨tg, iter, ifs, 0⟩] scope pos) spos :: sts) r := fun σ H S D q =>
  wss_of (pss_cons ps_ws pss_wss) (h.set i S hy hyl (sw_true hk hyl hl ha) fun p H1 n s1 l1 => h2 _ H1 ((S.mono s1).set i ⟨p, rfl, l1⟩) D fun v H2 s2 a2 => q v H2 (s1.trans s2) a2)
theorem gon_setLc {y : Str} {py spos : Pos} {sts : List Stmt} {r : List PyData} (i : Nat) (h : LcD X Γ elt tg iter ifs scope ds) (h2 : GoN X (Γ.set i (some (.l ds))) sts r) (hy : X.N[i]? = some y := by rfl) (hyl : X.env.scope.names.lookup y = some .local := by rfl)
    (hk : X.env.scope.kind = .function := by rfl) (hl : (py.line == pos.line) = true := by rfl) (ha : (scope.names.any fun (n, k) => n == y && (k == .local || k == .cell)) = false := by decide +kernel) : GoN X Γ (.Assign [.Name y py] (.ListComp elt [⟨tg, iter, ifs, 0⟩] scope pos) spos :: sts) r := fun σ H S D q =>
  wss_of (pss_cons ps_ws pss_wss) (h.set i S hy hyl (sw_true hk hyl hl ha) fun p H1 n s1 l1 => h2 _ H1 ((S.mono s1).set i ⟨p, rfl, l1⟩) D fun v H2 n2 s2 a2 => q v H2 (s1.free n2) (s1.trans s2) a2)
/-- over anything; the target a name -/
theorem lcd1 {xs : List α} {enc : α → PyData} {x : Str} {xp : Pos} (N : List Str) (sc : Scope) (i : Nat) (pr : α → Bool) (f : α → PyData) (hsrc : Src X Γ (.Name x xp) iter (xs.map enc)) (hnd : N.Nodup) (hz : xs.length ≤ 100000)
    (ht : ∀ y ∈ xs, ∀ s H C cl fp, PuTs (Blk X scope s H C cl fp) (Γ.set i (some (.d (enc y)))) ifs (pr y)) (he : ∀ y ∈ xs, pr y = true → ∀ s H C cl fp, Pu (Blk X scope s H C cl fp) (Γ.set i (some (.d (enc y)))) elt (.d (f y)))
    (hv : ∀ r, Γ[i]? ≠ some (some r) := by intro r h; cases h) (hblk : blkC N sc scope [(x, i)] = true := by decide +kernel) (hXN : X.N = N := by rfl) (hXs : X.env.scope = sc := by rfl) (hc : X.calm = true := by rfl)
    (hNi : X.N[i]? = some x := by rfl) (hlo : ∀ s H C cl fp, (Blk X scope s H C cl fp).env.scope.names.lookup x = some .local := by exact fun _ _ _ _ _ => rfl)
    (hs : ∀ z, foldedSetIterable iter X.env z = pure z := by intro _; rfl) : LcD X Γ elt (.Name x xp) iter ifs scope ((xs.filter pr).map f) := by
  obtain ⟨wi, hi, hw⟩ := hsrc
  refine ⟨wi, gName i, [(x, i)], hc, by rw [hXN]; exact hnd, hi, by rw [hXN, hXs]; exact blkOk_by hblk, fun s H C cl fp => pg_name (by show X.N.Nodup; rw [hXN]; exact hnd) hNi (Or.inl (hlo s H C cl fp)) (.inr (hlo s H C cl fp)), hs, fun σ H S Q q => ?_⟩
  exact lc_go pr f (fun y => Γ.set i (some (.d (enc y)))) (hw σ H S) hz S (by intro j hj; simp at hj; subst hj; exact hv) (fun y _ => gd_name (by simp)) ht he q
/-- the target a tuple of names -/
theorem lcd2 {xs : List α} {enc : α → PyData} {els : List Expr} {kk : Nat} {xp : Pos} {own : List (Str × Nat)} {g : TG} (N : List Str) (sc : Scope) (γ : α → Gm) (pr : α → Bool) (f : α → PyData) (hsrc : Src X Γ (.Tuple els kk xp) iter (xs.map enc)) (hnd : N.Nodup) (hz : xs.length ≤ 100000)
    (hg : ∀ s H C cl fp, PG (Blk X scope s H C cl fp) (.Tuple els kk xp) g) (hgd : ∀ y ∈ xs, GD g (own.map (·.2)) (enc y) Γ (γ y))
    (ht : ∀ y ∈ xs, ∀ s H C cl fp, PuTs (Blk X scope s H C cl fp) (γ y) ifs (pr y)) (he : ∀ y ∈ xs, pr y = true → ∀ s H C cl fp, Pu (Blk X scope s H C cl fp) (γ y) elt (.d (f y)))
    (hv : ∀ i ∈ own.map (·.2), ∀ r, Γ[i]? ≠ some (some r) := by simp) (hblk : blkC N sc scope own = true := by decide +kernel) (hXN : X.N = N := by rfl) (hXs : X.env.scope = sc := by rfl) (hc : X.calm = true := by rfl)
    (hs : ∀ z, foldedSetIterable iter X.env z = pure z := by intro _; rfl) : LcD X Γ elt (.Tuple els kk xp) iter ifs scope ((xs.filter pr).map f) := by
  obtain ⟨wi, hi, hw⟩ := hsrc
  refine ⟨wi, g, own, hc, by rw [hXN]; exact hnd, hi, by rw [hXN, hXs]; exact blkOk_by hblk, hg, hs, fun σ H S Q q => ?_⟩
  exact lc_go pr f γ (hw σ H S) hz S hv hgd ht he q
/-- without a test -/
theorem map_all {xs : List α} {f : α → PyData} : (xs.filter fun _ => true).map f = xs.map f := by rw [List.filter_eq_self.mpr (by simp)]
theorem lcd1a {xs : List α} {enc : α → PyData} {x : Str} {xp : Pos} (N : List Str) (sc : Scope) (i : Nat) (f : α → PyData) (hsrc : Src X Γ (.Name x xp) iter (xs.map enc)) (hnd : N.Nodup) (hz : xs.length ≤ 100000)
    (he : ∀ y ∈ xs, ∀ s H C cl fp, Pu (Blk X scope s H C cl fp) (Γ.set i (some (.d (enc y)))) elt (.d (f y)))
    (hv : ∀ r, Γ[i]? ≠ some (some r) := by intro r h; cases h) (hblk : blkC N sc scope [(x, i)] = true := by decide +kernel) (hXN : X.N = N := by rfl) (hXs : X.env.scope = sc := by rfl) (hc : X.calm = true := by rfl)
    (hNi : X.N[i]? = some x := by rfl) (hlo : ∀ s H C cl fp, (Blk X scope s H C cl fp).env.scope.names.lookup x = some .local := by exact fun _ _ _ _ _ => rfl)
    (hs : ∀ z, foldedSetIterable iter X.env z = pure z := by intro _; rfl) : LcD X Γ elt (.Name x xp) iter [] scope (xs.map f) :=
  (lcd1 N sc i (fun _ => true) f hsrc hnd hz (fun _ _ _ _ _ _ _ => .nil) (fun y hy _ => he y hy) hv hblk hXN hXs hc hNi hlo hs).to map_all
theorem lcd2a {xs : List α} {enc : α → PyData} {els : List Expr} {kk : Nat} {xp : Pos} {own : List (Str × Nat)} {g : TG} (N : List Str) (sc : Scope) (γ : α → Gm) (f : α → PyData) (hsrc : Src X Γ (.Tuple els kk xp) iter (xs.map enc)) (hnd : N.Nodup) (hz : xs.length ≤ 100000)
    (hg : ∀ s H C cl fp, PG (Blk X scope s H C cl fp) (.Tuple els kk xp) g) (hgd : ∀ y ∈ xs, GD g (own.map (·.2)) (enc y) Γ (γ y))
    (he : ∀ y ∈ xs, ∀ s H C cl fp, Pu (Blk X scope s H C cl fp) (γ y) elt (.d (f y)))
    (hv : ∀ i ∈ own.map (·.2), ∀ r, Γ[i]? ≠ some (some r) := by simp) (hblk : blkC N sc scope own = true := by decide +kernel) (hXN : X.N = N := by rfl) (hXs : X.env.scope = sc := by rfl) (hc : X.calm = true := by rfl)
    (hs : ∀ z, foldedSetIterable iter X.env z = pure z := by intro _; rfl) : LcD X Γ elt (.Tuple els kk xp) iter [] scope (xs.map f) :=
  (lcd2 N sc γ (fun _ => true) f hsrc hnd hz hg hgd (fun _ _ _ _ _ _ _ => .nil) (fun y hy _ => he y hy) hv hblk hXN hXs hc hs).to map_all
end
end K47
/-! K8: statements by continuation; loops that may change lists. -/
namespace K47
open PySem PySem.Spec PyProof.Rows L2
/-! ### statements, one after another -/
section
variable {X : Cx} {Γ : Gm} {st : Stmt} {sts body els : List Stmt} {e c : Expr} {pos pos' : Pos} {r : Rs} {ds : List PyData} {x : Str} {σ : L2.St} {H : Hp} {D : Ends} {i : Nat}
theorem wss_cons (h : WS X st { D with nx := fun σ' H' => WSs X sts D σ' H' } σ H) : WSs X (st :: sts) D σ H := wss_of (pss_cons ps_ws pss_wss) h
theorem wss_one (h : WS X st D σ H) : WSs X [st] D σ H := wss_of (pss_one ps_ws) h
theorem wss_nil (h : D.nx σ H) : WSs X [] D σ H := wss_of pss_nil h
/-- the answer of WE may be weakened -/
theorem WE.mono {Q Q' : VK} (h : WE X e σ H Q) (q : ∀ v H', Q v H' → Q' v H') : WE X e σ H Q' := fun pins s I => thn (h pins s I) fun u s' ⟨v, H', I', r, z⟩ => ⟨v, H', I', r, q v H' z⟩
theorem WSs.mono {D' : Ends} (h : WSs X sts D σ H) (n : ∀ σ' H', D.nx σ' H' → D'.nx σ' H') (rt : ∀ v H', D.rt v H' → D'.rt v H') (bk : ∀ σ' H', D.bk σ' H' → D'.bk σ' H') (ct : ∀ σ' H', D.ct σ' H' → D'.ct σ' H') : WSs X sts D' σ H := fun pins s I => thn (h pins s I) fun f s' z => by
  cases f with
  | next => obtain ⟨a, b, c, d⟩ := z; exact ⟨a, b, c, n _ _ d⟩
  | brk => obtain ⟨a, b, c, d⟩ := z; exact ⟨a, b, c, bk _ _ d⟩
  | cont => obtain ⟨a, b, c, d⟩ := z; exact ⟨a, b, c, ct _ _ d⟩
  | ret v => obtain ⟨y, a, b, c, d, e⟩ := z; exact ⟨y, a, b, c, d, rt _ _ e⟩
theorem ws_setW (i : Nat) (hN : X.N.Nodup) (h : WE X e σ H fun v H' => D.nx (σ.set i (some v)) H') (hi : X.N[i]? = some x := by rfl) (hx : Loc X.env.scope x := by first | exact Or.inl rfl | exact Or.inr rfl) (hs : swapsWith e (some (.Name x pos')) pos.line X.env = pure false := by rfl)
    (hf : X.fn x = true ∨ X.env.scope.names.lookup x = some .local := by first | exact .inl rfl | exact .inr rfl) : WS X (.Assign [.Name x pos'] e pos) D σ H := ws_of (ps_set hN hi hx pe_we hs hf) h
/-- x = e, e pure -/
theorem ws_set (i : Nat) (hN : X.N.Nodup) (S : Sl H σ Γ) (h : Pu X Γ e r) (q : ∀ v H', Same H H' → At H' v r → D.nx (σ.set i (some v)) H') (hi : X.N[i]? = some x := by rfl) (hx : Loc X.env.scope x := by first | exact Or.inl rfl | exact Or.inr rfl) (hs : swapsWith e (some (.Name x pos')) pos.line X.env = pure false := by rfl)
    (hf : X.fn x = true ∨ X.env.scope.names.lookup x = some .local := by first | exact .inl rfl | exact .inr rfl) : WS X (.Assign [.Name x pos'] e pos) D σ H := ws_setW i hN (h σ H S _ q) hi hx hs hf
theorem ws_setN (i : Nat) (hN : X.N.Nodup) (S : Sl H σ Γ) (h : PuN X Γ e ds) (q : ∀ p H', H p = none → Same H H' → Ls H' p ds → D.nx (σ.set i (some (.ref p))) H') (hi : X.N[i]? = some x := by rfl) (hx : Loc X.env.scope x := by first | exact Or.inl rfl | exact Or.inr rfl) (hs : swapsWith e (some (.Name x pos')) pos.line X.env = pure false := by rfl)
    (hf : X.fn x = true ∨ X.env.scope.names.lookup x = some .local := by first | exact .inl rfl | exact .inr rfl) : WS X (.Assign [.Name x pos'] e pos) D σ H := ws_setW i hN (h σ H S _ q) hi hx hs hf
/-- x = [..] where x is a local -/
theorem ws_setLc {elt tg iter : Expr} {ifs : List Expr} {scope : Scope} {y : Str} {py spos : Pos} (i : Nat) (S : Sl H σ Γ) (h : LcD X Γ elt tg iter ifs scope ds) (q : ∀ p H', H p = none → Same H H' → Ls H' p ds → D.nx (σ.set i (some (.ref p))) H') (hy : X.N[i]? = some y := by rfl) (hyl : X.env.scope.names.lookup y = some .local := by rfl)
    (hk : X.env.scope.kind = .function := by rfl) (hl : (py.line == pos.line) = true := by rfl) (ha : (scope.names.any fun (n, k) => n == y && (k == .local || k == .cell)) = false := by decide +kernel) : WS X (.Assign [.Name y py] (.ListComp elt [⟨tg, iter, ifs, 0⟩] scope pos) spos) D σ H :=
  h.set i S hy hyl (sw_true hk hyl hl ha) q
theorem ws_ret (S : Sl H σ Γ) (h : Pu X Γ e r) (q : ∀ v H', Same H H' → At H' v r → D.rt v H') : WS X (.Return (some e) pos) D σ H := ws_of (ps_ret pe_we) (h σ H S _ q)
theorem ws_retN (S : Sl H σ Γ) (h : PuN X Γ e ds) (q : ∀ p H', H p = none → Same H H' → Ls H' p ds → D.rt (.ref p) H') : WS X (.Return (some e) pos) D σ H := ws_of (ps_ret pe_we) (h σ H S _ q)
theorem ws_retW (h : WE X e σ H D.rt) : WS X (.Return (some e) pos) D σ H := ws_of (ps_ret pe_we) h
theorem ws_if {b : Bool} (S : Sl H σ Γ) (hc : PuT X Γ c b) (h1 : b = true → ∀ H', Same H H' → WSs X body D σ H') (h2 : b = false → ∀ H', Same H H' → WSs X els D σ H') : WS X (.If c body els pos) D σ H :=
  ws_of (ps_if pt_wt pss_wss pss_wss) (hc σ H S _ fun H' s => by
    cases b with
    | true => exact h1 rfl H' s
    | false => exact h2 rfl H' s)
theorem ws_exprP (S : Sl H σ Γ) (h : Pu X Γ e r) (q : ∀ H', Same H H' → D.nx σ H') (hs : swapsWith e none pos.line X.env = pure false := by rfl) : WS X (.Expr e pos) D σ H := ws_of (ps_expr pe_we hs) (h σ H S _ fun _ H' s _ => q H' s)
/-- an if that never comes -/
theorem ws_ifN (S : Sl H σ Γ) (hc : PuT X Γ c false) (q : ∀ H', Same H H' → D.nx σ H') : WS X (.If c body [] pos) D σ H := ws_if S hc (fun h => nomatch h) fun _ H' s => wss_nil (q H' s)
theorem ws_expr (h : WE X e σ H fun _ H' => D.nx σ H') (hs : swapsWith e none pos.line X.env = pure false := by rfl) : WS X (.Expr e pos) D σ H := ws_of (ps_expr pe_we hs) h
/-- xs.append(e): the list stands at q -/
theorem we_append {o : Expr} {apos cpos : Pos} (Qo : WE X o σ H fun v H1 => ∃ q, v = .ref q ∧ (∃ xs, H1 q = some (.lst xs)) ∧ WE X e σ H1 fun y H2 => ∃ ys, H2 q = some (.lst ys) ∧ ys.length < sizeLine ∧ D.nx σ (upd H2 q (.lst (ys ++ [y]))))
    (hbase : attributeBase o "append" X.env (eval o X.env) = eval o X.env := by rfl)
    (hfew : ((backTo cpos (starEach [e] X.env)).all (fun x => !x.1) && (backToKw cpos (keywordEach [] X.env)).all (fun x => x.1.isSome)
      && decide ([e].length + ([] : List Keyword).length + (if ([] : List Keyword).isEmpty then 0 else 1) < 30)) = true := by rfl)
    (hline : (apos.endLine == cpos.line) = true := by rfl) (hs : starEach [e] X.env = [(false, eval e X.env)] := by rfl) (hsw : swapsWith (.Call (.Attribute o "append" apos) [e] [] cpos) none pos.line X.env = pure false := by rfl) :
    WS X (.Expr (.Call (.Attribute o "append" apos) [e] [] cpos) pos) D σ H :=
  ws_of (ps_expr (pe_bm PySem.F.plainAttrs_list PySem.F.slot_list_append PySem.F.type_list_append mt_append pe_we (pa_cons pe_we pa_nil hs) hbase hfew hline hs) hsw) (Qo.mono fun v H1 ⟨q, e1, ⟨xs, hq⟩, h⟩ => by
    subst e1
    exact ⟨.inl ⟨rfl, xs, SqL.of hq⟩, h.mono fun y H2 ⟨ys, h1, h2, h3⟩ => ⟨q, ys, y, rfl, rfl, h1, h2, h3⟩⟩)
theorem we_name {p : Pos} (i : Nat) {v : V} {Q : VK} (hv : σ[i]? = some (some v)) (q : Q v H) (hN : X.N[i]? = some x := by rfl)
    (hvis : Vis X.env.scope x := by first | exact Or.inl rfl | exact Or.inr (Or.inl rfl) | exact Or.inr (Or.inr rfl)) (hd : (x == ("__debug__" : Str)) = false := by decide) (hcd : (x == ("__classdict__" : Str)) = false := by decide) : WE X (.Name x p) σ H Q := we_of (pe_var hN hvis hd hcd) ⟨v, hv, q⟩
/-- all but q stays -/
def SameX (q : Addr) (H H' : Hp) : Prop := ∀ a o, a ≠ q → H a = some o → H' a = some o
theorem SameX.of {q : Addr} {H H' : Hp} (s : Same H H') : SameX q H H' := fun a o _ h => s a o h
theorem SameX.trans {q : Addr} {H H1 H2 : Hp} (a : SameX q H H1) (b : SameX q H1 H2) : SameX q H H2 := fun c o n h => b c o n (a c o n h)
theorem SameX.upd {q : Addr} {H : Hp} {o : HO} : SameX q H (upd H q o) := fun a u n h => by rw [upd_ne n]; exact h
theorem SameX.base {q : Addr} {H0 H H' : Hp} (x : SameX q H H') (s : Same H0 H) (h : H0 q = none) : Same H0 H' := fun a o e => x a o (fun z => by subst z; rw [h] at e; cases e) (s a o e)
theorem SameX.tx {q : Addr} {H H' : Hp} {ds : List PyData} (x : SameX q H H') (h : Ls H q ds) : Tx H H' := fun a xs e => x a _ (fun z => by
  subst z
  obtain ⟨vs, h1, _⟩ := h
  rw [h1] at e; cases e) e
/-- x.append(e), x a name of slot i, e pure -/
theorem ws_app {apos cpos xp : Pos} (i : Nat) {q : Addr} {d : PyData} (S : Sl H σ Γ) (hv : σ[i]? = some (some (.ref q))) (hq : Ls H q ds) (he : Pu X Γ e (.d d)) (hz : ds.length ≤ 100000)
    (k : ∀ H'', SameX q H H'' → Ls H'' q (ds ++ [d]) → D.nx σ H'') (hN : X.N[i]? = some x := by rfl)
    (hvis : Vis X.env.scope x := by first | exact Or.inl rfl | exact Or.inr (Or.inl rfl) | exact Or.inr (Or.inr rfl)) (hd : (x == ("__debug__" : Str)) = false := by decide) (hcd : (x == ("__classdict__" : Str)) = false := by decide)
    (hbase : attributeBase (.Name x xp) "append" X.env (eval (.Name x xp) X.env) = eval (.Name x xp) X.env := by rfl)
    (hfew : ((backTo cpos (starEach [e] X.env)).all (fun x => !x.1) && (backToKw cpos (keywordEach [] X.env)).all (fun x => x.1.isSome)
      && decide ([e].length + ([] : List Keyword).length + (if ([] : List Keyword).isEmpty then 0 else 1) < 30)) = true := by rfl)
    (hline : (apos.endLine == cpos.line) = true := by rfl) (hs : starEach [e] X.env = [(false, eval e X.env)] := by rfl) (hsw : swapsWith (.Call (.Attribute (.Name x xp) "append" apos) [e] [] cpos) none pos.line X.env = pure false := by rfl) :
    WS X (.Expr (.Call (.Attribute (.Name x xp) "append" apos) [e] [] cpos) pos) D σ H := by
  obtain ⟨vs, h1, al⟩ := hq
  refine we_append (we_name i hv ⟨q, rfl, ⟨vs, h1⟩, he σ H S _ fun y H2 s2 a2 => ⟨vs, s2 _ _ h1, ?_, k _ ((SameX.of s2).trans .upd) ⟨_, upd_same, ?_⟩⟩⟩ hN hvis hd hcd) hbase hfew hline hs hsw
  · rw [al.length]; exact Nat.lt_of_le_of_lt hz (by decide)
  · have tx : Tx H2 (upd H2 q (.lst (vs ++ [y]))) := .mut (s2 _ _ h1) fun xs z => nomatch z
    exact ((al.mono (.of s2)).append (.cons a2 .nil)).mono tx
end
/-! ### slots -/
theorem Sl.add {H : Hp} {σ : L2.St} {Γ : Gm} {v : V} {r : Rs} (i : Nat) (S : Sl H σ Γ) (hv : σ[i]? = some (some v)) (a : At H v r) : Sl H σ (Γ.set i (some r)) := by
  have h := S.set i a
  have e : σ.set i (some v) = σ := by
    obtain ⟨h1, h2⟩ := List.getElem?_eq_some_iff.mp hv
    rw [← h2]; exact List.set_getElem_self h1
  rw [e] at h; exact h
theorem Sl.del {H : Hp} {σ : L2.St} {Γ : Gm} (i : Nat) (S : Sl H σ Γ) : Sl H σ (Γ.set i none) := by
  refine ⟨by simp [S.len], fun j q e => ?_⟩
  by_cases hj : i = j
  · subst hj
    have hi : i < Γ.length := by
      have := (List.getElem?_eq_some_iff.mp e).1
      simpa using this
    rw [List.getElem?_set_self hi] at e
    cases e
  · rw [List.getElem?_set_ne hj] at e
    exact S.at_ j q e
theorem Sl.to {H : Hp} {σ : L2.St} {Γ Γ' : Gm} (S : Sl H σ Γ) (e : Γ = Γ') : Sl H σ Γ' := e ▸ S
/-- only immutable data -/
def isD : Option Rs → Bool
  | none => true
  | some (.d _) => true
  | _ => false
theorem Sl.tx {H H' : Hp} {σ : L2.St} {Γ : Gm} (S : Sl H σ Γ) (t : Tx H H') (h : Γ.all isD = true) : Sl H' σ Γ := ⟨S.len, fun i r e => by
  obtain ⟨v, h1, h2⟩ := S.at_ i r e
  refine ⟨v, h1, ?_⟩
  have hm : isD (some r) = true := List.all_eq_true.mp h _ (List.mem_of_getElem? e)
  cases r with
  | d x => exact Im.mono t h2
  | l ds => cases hm
  | t ds => cases hm
  | k ds => cases hm
  | f C x r => cases hm
  | b r s => cases hm
  | x φ m k => cases hm⟩
/-! ### loops -/
def Gk (p : Option Addr) (H1 H2 : Hp) : Prop := Tx H1 H2 ∧ ∀ a, p = some a → ∀ o, H1 a = some o → H2 a = some o
theorem Gk.of {p : Option Addr} {H H' : Hp} (s : Same H H') : Gk p H H' := ⟨.of s, fun a _ o h => s a o h⟩
theorem Gk.trans {p : Option Addr} {H H1 H2 : Hp} (a : Gk p H H1) (b : Gk p H1 H2) : Gk p H H2 := ⟨a.1.trans b.1, fun c e o h => b.2 c e o (a.2 c e o h)⟩
def WalkS (wi : TI) (σ : L2.St) (H : Hp) (ds : List PyData) (Iq : Addr → Prop) : Prop := ∀ R : It → Hp → Prop,
  (∀ (J : It) (H1 : Hp) (G : Hp → Prop) (Y : Nat → Hp → V → Hp → Prop) (p : Option Addr), Same H H1 → (∀ a, p = some a → Iq a ∧ ∃ o, H1 a = some o) → Walk J ds.length G Y → (∀ H2, Gk p H1 H2 → G H2) →
    (∀ (i : Nat) (H2 : Hp) (x : V) (H3 : Hp), i < ds.length → Gk p H1 H2 → Y i H2 x H3 → Same H2 H3 ∧ ∃ d, ds[i]? = some d ∧ Im H3 x d) → R J H1) → wi σ H R
def SrcS (X : Cx) (tg iter : Expr) (σ : L2.St) (H : Hp) (ds : List PyData) (Iq : Addr → Prop) : Prop := ∃ wi : TI, PI X tg iter wi ∧ WalkS wi σ H ds Iq
section
variable {X : Cx} {Γ : Gm} {tg e iter : Expr} {pos p : Pos} {ds : List PyData} {Iq : Addr → Prop} {σ : L2.St} {H : Hp}
theorem srcS_we (h : ∀ Q : VK, (∀ a H1, Same H H1 → Ls H1 a ds → Iq a → Q (.ref a) H1) → WE X e σ H Q) : SrcS X tg e σ H ds Iq := ⟨_, pi_list pe_we, fun R r => h _ fun p H1 s a iq => by
  obtain ⟨vs, hp, al⟩ := a
  refine ⟨p, rfl, ⟨vs, SqL.of hp⟩, r _ H1 (fun H2 => SqL X.K H2 p vs) (YAt vs) (some p) s (fun a e => by cases e; exact ⟨iq, _, hp⟩) (by rw [← al.length]; exact walk_list) (fun H2 s2 => SqL.of (s2.2 _ rfl _ hp)) fun i H2 x H3 hi s2 y => ?_⟩
  obtain ⟨e1, e2⟩ := y
  subst e1
  obtain ⟨d, h1, h2⟩ := al.get' e2
  exact ⟨Same.refl _, d, h1, h2.mono s2.1⟩⟩
theorem srcS_new (S : Sl H σ Γ) (h : PuN X Γ e ds) : SrcS X tg e σ H ds (fun a => H a = none) := srcS_we fun Q q => h σ H S _ fun p H' n s l => q p H' s l n
theorem srcS_any (S : Sl H σ Γ) (h : Pu X Γ e (.l ds)) : SrcS X tg e σ H ds (fun _ => True) := srcS_we fun Q q => h σ H S _ fun v H' s l => by
  obtain ⟨p, rfl, l⟩ := l
  exact q p H' s l trivial
theorem srcS_var {x : Str} (i : Nat) {a : Addr} (hv : σ[i]? = some (some (.ref a))) (hl : Ls H a ds) (hN : X.N[i]? = some x := by rfl)
    (hvis : Vis X.env.scope x := by first | exact Or.inl rfl | exact Or.inr (Or.inl rfl) | exact Or.inr (Or.inr rfl)) (hd : (x == ("__debug__" : Str)) = false := by decide) (hcd : (x == ("__classdict__" : Str)) = false := by decide) : SrcS X tg (.Name x p) σ H ds (fun b => b = a) :=
  srcS_we fun Q q => we_name i hv (q a H (Same.refl H) hl rfl) hN hvis hd hcd
theorem srcS_tup (S : Sl H σ Γ) (h : Pu X Γ e (.d (.tuple ds))) : SrcS X tg e σ H ds Iq := ⟨_, pi_tup pe_we, fun R r => h σ H S _ fun v H1 s a => by
  cases a with
  | @tup p vs _ hp al =>
    refine ⟨p, rfl, ⟨vs, SqT.of hp⟩, r _ H1 (fun H2 => SqT X.K H2 p vs) (YAt vs) none s (fun a e => nomatch e) (by rw [← al.length]; exact walk_tup) (fun H2 s2 => SqT.of (s2.1 _ _ hp)) fun i H2 x H3 hi s2 y => ?_⟩
    obtain ⟨e1, e2⟩ := y
    subst e1
    obtain ⟨d, h1, h2⟩ := al.get' e2
    exact ⟨Same.refl _, d, h1, h2.mono s2.1⟩⟩
theorem srcS_rng1 {j : Int} (M : Mg X.mg) (S : Sl H σ Γ) (h : Pu X Γ e (.d (.int j))) (hj : -(2 ^ 62) ≤ j ∧ j < 2 ^ 62) (hg : Gl X "range" := by rfl) (hs : starEach [e] X.env = [(false, eval e X.env)] := by rfl) : SrcS X tg (.Call (.Name "range" p) [e] [] pos) σ H (rngD 0 j.toNat) Iq :=
  ⟨_, pi_range1 hg M.range pa_wa hs, fun R r => pua_cons h pua_nil hs σ H S _ fun vs H1 s a => by
    obtain ⟨v, rfl, b⟩ := at1 a
    cases b
    refine ⟨j, rfl, hj.1, hj.2, r _ H1 (fun _ => True) (YFn fun i => .int (0 + (i : Nat))) none s (fun a e => nomatch e) (by rw [rngD_len]; exact walk_range) (fun _ _ => trivial) fun i H2 x H3 hi s2 y => ?_⟩
    rw [rngD_len] at hi
    obtain ⟨e1, e2⟩ := y
    subst e1 e2
    exact ⟨Same.refl _, _, rngD_at hi, .int _⟩⟩
theorem srcS_rng2 {a b : Expr} {i j : Int} (M : Mg X.mg) (S : Sl H σ Γ) (h : Pu X Γ a (.d (.int i))) (h2 : Pu X Γ b (.d (.int j))) (hj : -(2 ^ 62) ≤ i ∧ i < 2 ^ 62 ∧ -(2 ^ 62) ≤ j ∧ j < 2 ^ 62) (hg : Gl X "range" := by rfl)
    (hs : starEach [a, b] X.env = [(false, eval a X.env), (false, eval b X.env)] := by rfl) (hs2 : starEach [b] X.env = [(false, eval b X.env)] := by rfl) : SrcS X tg (.Call (.Name "range" p) [a, b] [] pos) σ H (rngD i (j - i).toNat) Iq :=
  ⟨_, pi_range2 hg M.range pa_wa hs hs2, fun R r => pua_cons h (pua_cons h2 pua_nil hs2) (by rw [hs, hs2]) σ H S _ fun vs H1 s a => by
    obtain ⟨v, w, rfl, a1, a2⟩ := at2 a
    cases a1; cases a2
    refine ⟨i, j, rfl, hj, r _ H1 (fun _ => True) (YFn fun k => .int (i + (k : Nat))) none s (fun a e => nomatch e) (by rw [rngD_len]; exact walk_range) (fun _ _ => trivial) fun k H2 x H3 hi s2 y => ?_⟩
    rw [rngD_len] at hi
    obtain ⟨e1, e2⟩ := y
    subst e1 e2
    exact ⟨Same.refl _, _, rngD_at hi, .int _⟩⟩
/-- range(i, j, -1) -/
def rngDn (hi : Int) (n : Nat) : List PyData := (List.range n).map fun i => .int (hi - (i : Nat))
theorem srcS_rngDn {a b c : Expr} {i j : Int} (M : Mg X.mg) (S : Sl H σ Γ) (h : Pu X Γ a (.d (.int i))) (h2 : Pu X Γ b (.d (.int j))) (h3 : Pu X Γ c (.d (.int (-1)))) (hj : -(2 ^ 62) ≤ i ∧ i < 2 ^ 62 ∧ -(2 ^ 62) ≤ j ∧ j < 2 ^ 62) (hg : Gl X "range" := by rfl)
    (hs : starEach [a, b, c] X.env = (false, eval a X.env) :: starEach [b, c] X.env := by rfl) (hs2 : starEach [b, c] X.env = (false, eval b X.env) :: starEach [c] X.env := by rfl) (hs3 : starEach [c] X.env = [(false, eval c X.env)] := by rfl)
    (hpl : (backTo pos (starEach [b, c] X.env)).any (·.1) = false := by rfl) : SrcS X tg (.Call (.Name "range" p) [a, b, c] [] pos) σ H (rngDn i (i - j).toNat) Iq :=
  ⟨_, pi_range3 hg M.range pa_wa hs hpl, fun R r => pua_cons h (pua_cons h2 (pua_cons h3 pua_nil hs3) hs2) hs σ H S _ fun vs H1 s a => by
    obtain ⟨v, w, z, rfl, a1, a2, a3⟩ := at3 a
    cases a1; cases a2; cases a3
    have el : (rngDn i (i - j).toNat).length = (i - j).toNat := by simp [rngDn]
    refine ⟨i, j, -1, (i - j).toNat, rfl, RgC.neg hj.1 hj.2.1 hj.2.2.1 hj.2.2.2, r _ H1 (fun _ => True) (YFn fun k => .int (i + (k : Nat) * (-1))) none s (fun a e => nomatch e) (by rw [el]; exact walk_rangeC) (fun _ _ => trivial) fun k H2 x H3 hi s2 y => ?_⟩
    rw [el] at hi
    obtain ⟨e1, e2⟩ := y
    subst e1 e2
    refine ⟨Same.refl _, .int (i - (k : Nat)), by simp [rngDn, hi], ?_⟩
    have e : i + (k : Nat) * (-1) = i - (k : Nat) := by omega
    show Im H3 (V.int (i + (k : Nat) * (-1))) _
    rw [e]; exact .int _⟩
theorem srcS_enumW {elts : List Expr} {kk : Nat} {tpos : Pos} (M : Mg X.mg) (h : ∀ Q : VK, (∀ a H1, Same H H1 → Ls H1 a ds → Iq a → Q (.ref a) H1) → WE X e σ H Q) (hg : Gl X "enumerate" := by rfl) (hs : starEach [e] X.env = [(false, eval e X.env)] := by rfl) :
    SrcS X (.Tuple elts kk tpos) (.Call (.Name "enumerate" p) [e] [] pos) σ H (ds.zipIdx.map fun q => .tuple [.int (q.2 : Nat), q.1]) Iq :=
  ⟨_, pi_enum hg M.enumerate (pa_cons pe_we pa_nil hs) hs, fun R r => h _ fun p' H1 s a iq => by
    obtain ⟨xs, hp, al⟩ := a
    have hl := al.length
    refine ⟨p', xs, rfl, SqL.of hp, r _ H1 (fun H2 => SqL X.K H2 p' xs) (YPair (fun i => some (.int (i : Nat))) (fun i => xs[i]?)) (some p') s (fun a e => by cases e; exact ⟨iq, _, hp⟩) (by simp only [List.length_map, List.length_zipIdx]; rw [← hl]; exact walk_enum) (fun H2 s2 => SqL.of (s2.2 _ rfl _ hp)) fun i H2 x H3 hi s2 y => ?_⟩
    obtain ⟨T, x1, x2, rfl, hT, rfl, e1, e2⟩ := y
    have e1 : x1 = .int (i : Nat) := (Option.some.inj e1).symm
    subst e1
    obtain ⟨d, h1, h2⟩ := al.get' e2
    refine ⟨same_new hT, .tuple [.int (i : Nat), d], by simp [h1], .tup upd_same (.cons (.int _) (.cons ((h2.mono s2.1).mono (.new hT)) .nil))⟩⟩
/-- THE LOOP -/
theorem ws_for {g : TG} {body : List Stmt} {D : Ends} (hsrc : SrcS X tg iter σ H ds Iq) (hg : PG X tg g)
    (h : ∀ p H1, Same H H1 → (∀ a, p = some a → Iq a ∧ ∃ o, H1 a = some o) → ∃ Pv : Nat → L2.St → Hp → Prop, Pv 0 σ H1 ∧ (∀ i σ' H', i ≤ ds.length → Pv i σ' H' → Gk p H1 H') ∧
      (∀ i d σ' H' x H2, ds[i]? = some d → Pv i σ' H' → Same H' H2 → Im H2 x d → g x σ' H2 fun σ2 H3 => WSs X body { D with nx := Pv (i + 1), ct := Pv (i + 1), bk := D.nx } σ2 H3) ∧ ∀ σ' H', Pv ds.length σ' H' → D.nx σ' H')
    (hp : PassesOwn (model X.prog X.w) X.A X.env X.xe := by exact PassesOwn.never) (hc : X.calm = true := by rfl) (hs : ∀ x, foldedSetIterable iter X.env x = pure x := by intro _; rfl) : WS X (.For tg iter body [] pos) D σ H := by
  obtain ⟨wi, hi, hw⟩ := hsrc
  refine ws_of (ps_for hp hc hi hg pss_wss hs) (hw _ fun J H1 G Y p s1 hq wk hG hY => ?_)
  obtain ⟨Pv, h0, hk, hb, hd⟩ := h p H1 s1 hq
  refine for_it wk Pv h0 (fun i σ' H' hi q => hG _ (hk i σ' H' hi q)) (fun i x σ' H' H2 hi q y => ?_) hd
  obtain ⟨s3, d, h1, h2⟩ := hY i H' x H2 hi (hk i σ' H' (Nat.le_of_lt hi) q) y
  exact hb i d σ' H' x H2 h1 q s3 h2
end
/-! ### targets that are tuples of names -/
def g2 (K : PySem.W.Frag) (i j : Nat) : TG := gTup K 2 (gCons (gName i) (gCons (gName j) gNil))
def g3 (K : PySem.W.Frag) (i j k : Nat) : TG := gTup K 3 (gCons (gName i) (gCons (gName j) (gCons (gName k) gNil)))
def g4 (K : PySem.W.Frag) (i j k l : Nat) : TG := gTup K 4 (gCons (gName i) (gCons (gName j) (gCons (gName k) (gCons (gName l) gNil))))
section
variable {X : Cx} {Γ : Gm} {vs : List Nat} {i j k l : Nat} {a b c d : PyData} {x y z u : Str} {px py pz pu pos : Pos} {kk : Nat}
theorem gd_2 {K : PySem.W.Frag} (hi : i ∈ vs := by simp) (hj : j ∈ vs := by simp) : GD (g2 K i j) vs (.tuple [a, b]) Γ ((Γ.set i (some (.d a))).set j (some (.d b))) := gd_tup (gds_cons (gd_name hi) (gds_cons (gd_name hj) gds_nil)) rfl
theorem gd_3 {K : PySem.W.Frag} (hi : i ∈ vs := by simp) (hj : j ∈ vs := by simp) (hk : k ∈ vs := by simp) : GD (g3 K i j k) vs (.tuple [a, b, c]) Γ (((Γ.set i (some (.d a))).set j (some (.d b))).set k (some (.d c))) := gd_tup (gds_cons (gd_name hi) (gds_cons (gd_name hj) (gds_cons (gd_name hk) gds_nil))) rfl
theorem gd_4 {K : PySem.W.Frag} (hi : i ∈ vs := by simp) (hj : j ∈ vs := by simp) (hk : k ∈ vs := by simp) (hl : l ∈ vs := by simp) : GD (g4 K i j k l) vs (.tuple [a, b, c, d]) Γ ((((Γ.set i (some (.d a))).set j (some (.d b))).set k (some (.d c))).set l (some (.d d))) := gd_tup (gds_cons (gd_name hi) (gds_cons (gd_name hj) (gds_cons (gd_name hk) (gds_cons (gd_name hl) gds_nil)))) rfl
theorem pg_2 (i j : Nat) (hN : X.N.Nodup) (hc : X.calm = true := by rfl) (hi : X.N[i]? = some x := by rfl) (hj : X.N[j]? = some y := by rfl) (lx : Loc X.env.scope x := by first | exact Or.inl rfl | exact Or.inr rfl) (ly : Loc X.env.scope y := by first | exact Or.inl rfl | exact Or.inr rfl)
    (fx : X.fn x = true ∨ X.env.scope.names.lookup x = some .local := by first | exact .inl rfl | exact .inr rfl) (fy : X.fn y = true ∨ X.env.scope.names.lookup y = some .local := by first | exact .inl rfl | exact .inr rfl)
    (h1 : (assignEach [.Name x px, .Name y py] X.env).map (·.2) = assign (.Name x px) X.env :: (assignEach [.Name y py] X.env).map (·.2) := by rfl) (h2 : (assignEach [.Name y py] X.env).map (·.2) = assign (.Name y py) X.env :: (assignEach [] X.env).map (·.2) := by rfl)
    (hn : (assignEach [.Name x px, .Name y py] X.env).length = 2 := by rfl) (hst : (assignEach [.Name x px, .Name y py] X.env).findIdx? (·.1) = none := by rfl) : PG X (.Tuple [.Name x px, .Name y py] kk pos) (g2 X.K i j) :=
  pg_tup hc (pgs_cons (pg_name hN hi lx fx) (pgs_cons (pg_name hN hj ly fy) pgs_nil h2) h1) hn hst
theorem pg_3 (i j k : Nat) (hN : X.N.Nodup) (hc : X.calm = true := by rfl) (hi : X.N[i]? = some x := by rfl) (hj : X.N[j]? = some y := by rfl) (hk : X.N[k]? = some z := by rfl) (lx : Loc X.env.scope x := by first | exact Or.inl rfl | exact Or.inr rfl) (ly : Loc X.env.scope y := by first | exact Or.inl rfl | exact Or.inr rfl) (lz : Loc X.env.scope z := by first | exact Or.inl rfl | exact Or.inr rfl)
    (fx : X.fn x = true ∨ X.env.scope.names.lookup x = some .local := by first | exact .inl rfl | exact .inr rfl) (fy : X.fn y = true ∨ X.env.scope.names.lookup y = some .local := by first | exact .inl rfl | exact .inr rfl) (fz : X.fn z = true ∨ X.env.scope.names.lookup z = some .local := by first | exact .inl rfl | exact .inr rfl)
    (h1 : (assignEach [.Name x px, .Name y py, .Name z pz] X.env).map (·.2) = assign (.Name x px) X.env :: (assignEach [.Name y py, .Name z pz] X.env).map (·.2) := by rfl) (h2 : (assignEach [.Name y py, .Name z pz] X.env).map (·.2) = assign (.Name y py) X.env :: (assignEach [.Name z pz] X.env).map (·.2) := by rfl) (h3 : (assignEach [.Name z pz] X.env).map (·.2) = assign (.Name z pz) X.env :: (assignEach [] X.env).map (·.2) := by rfl)
    (hn : (assignEach [.Name x px, .Name y py, .Name z pz] X.env).length = 3 := by rfl) (hst : (assignEach [.Name x px, .Name y py, .Name z pz] X.env).findIdx? (·.1) = none := by rfl) : PG X (.Tuple [.Name x px, .Name y py, .Name z pz] kk pos) (g3 X.K i j k) :=
  pg_tup hc (pgs_cons (pg_name hN hi lx fx) (pgs_cons (pg_name hN hj ly fy) (pgs_cons (pg_name hN hk lz fz) pgs_nil h3) h2) h1) hn hst
end
section
variable {X : Cx} {Γ Γ' : Gm} {tg e : Expr} {g : TG} {vs : List Nat} {d : PyData} {sts : List Stmt} {r : Rs} {pos : Pos} {σ : L2.St} {H : Hp} {D : Ends}
theorem ws_asg (S : Sl H σ Γ) (h : Pu X Γ e (.d d)) (hg : PG X tg g) (hgd : GD g vs d Γ Γ') (q : ∀ σ' H', Same H H' → Sl H' σ' Γ' → wipe σ' vs = wipe σ vs → D.nx σ' H') (hs : swapsWithSole [tg] e pos.line X.env = pure false := by rfl) (hw : swappedStores [tg] e X.env = pure none := by rfl)
    (h1 : (assignEach [tg] X.env).map (·.2) = [assign tg X.env] := by rfl) : WS X (.Assign [tg] e pos) D σ H := ws_of (ps_asg pe_we hg hs hw h1) (h σ H S _ fun v H' s a => hgd v σ H' a (S.mono s) _ fun σ' S' w => q σ' H' s S' w)
theorem go_asg (h : Pu X Γ e (.d d)) (hg : PG X tg g) (hgd : GD g vs d Γ Γ') (h2 : Go X Γ' sts r) (hs : swapsWithSole [tg] e pos.line X.env = pure false := by rfl) (hw : swappedStores [tg] e X.env = pure none := by rfl)
    (h1 : (assignEach [tg] X.env).map (·.2) = [assign tg X.env] := by rfl) : Go X Γ (.Assign [tg] e pos :: sts) r := fun σ H S D q => wss_cons (ws_asg S h hg hgd (fun σ' H' s S' _ => h2 σ' H' S' D fun v H2 s2 a2 => q v H2 (s.trans s2) a2) hs hw h1)
end
end K47
/-! K9: loops that collect, loops that change nothing. -/
namespace K47
open PySem PySem.Spec PyProof.Rows L2
theorem wipe_get {σ σ' : L2.St} {W : List Nat} {i : Nat} (h : wipe σ' W = wipe σ W) (hi : i ∉ W) : σ'[i]? = σ[i]? := by
  have h1 := wipe_out (σ := σ) (i := i) (vs := W) hi
  have h2 := wipe_out (σ := σ') (i := i) (vs := W) hi
  rw [← h1, ← h2, h]
/-- slots W are not described -/
def Bare (Γ : Gm) (W : List Nat) : Prop := ∀ i ∈ W, ∀ r, Γ[i]? ≠ some (some r)
theorem Sl.wiped {H : Hp} {σ σ' : L2.St} {Γ : Gm} {W : List Nat} (S : Sl H σ Γ) (h : L2.wipe σ' W = L2.wipe σ W) (hb : Bare Γ W) : Sl H σ' Γ := by
  refine ⟨?_, fun i r e => ?_⟩
  · have := congrArg List.length h
    rw [wipe_length, wipe_length] at this
    rw [S.len, this]
  · obtain ⟨v, h1, h2⟩ := S.at_ i r e
    exact ⟨v, by rw [wipe_get h fun m => hb i m r e]; exact h1, h2⟩
theorem wipe_sub {σ σ' : L2.St} {vs W : List Nat} (h : wipe σ' vs = wipe σ vs) (hs : ∀ i ∈ vs, i ∈ W) : wipe σ' W = wipe σ W := by
  have e : ∀ τ : L2.St, wipe (wipe τ vs) W = wipe τ W := by
    intro τ
    induction vs with
    | nil => rfl
    | cons u us ih =>
      clear h
      show wipe ((wipe τ us).set u none) W = _
      rw [wipe_set (hs u (by simp))]
      have : ∀ (us : List Nat) (τ : L2.St), (∀ i ∈ us, i ∈ W) → wipe (wipe τ us) W = wipe τ W := by
        intro us
        induction us with
        | nil => intro _ _; rfl
        | cons a as ih2 =>
          intro τ hm
          show wipe ((wipe τ as).set a none) W = _
          rw [wipe_set (hm a (by simp))]
          exact ih2 τ fun i hi => hm i (by simp [hi])
      exact this us τ fun i hi => hs i (by simp [hi])
  rw [← e σ', ← e σ, h]
theorem SameX.gk {q : Addr} {H H' : Hp} {ds : List PyData} {p : Option Addr} (x : SameX q H H') (h : Ls H q ds) (hp : ∀ a, p = some a → a ≠ q) : Gk p H H' := ⟨x.tx h, fun a e o ho => x a o (hp a e) ho⟩
theorem SameX.refl (q : Addr) (H : Hp) : SameX q H H := fun _ _ _ h => h
section
variable {X : Cx} {Γ Γ0 : Gm} {tg iter : Expr} {pos : Pos} {ds : List PyData} {Iq : Addr → Prop} {σ : L2.St} {H H0 : Hp} {g : TG} {body : List Stmt} {D : Ends} {W : List Nat}
/-- a loop that collects in the new list at q, a name of slot f; W: the slots that change -/
theorem ws_acc (f : Nat) {q : Addr} (out : Nat → List PyData) (W : List Nat) (hsrc : SrcS X tg iter σ H ds Iq) (hIq : ∀ a, Iq a → (∃ o, H a = some o) ∨ H a = none → a ≠ q) (hg : PG X tg g) (s0 : Same H0 H) (hq0 : H0 q = none) (S0 : Sl H0 σ Γ0) (hf : σ[f]? = some (some (.ref q))) (hq : Ls H q (out 0)) (hW : Bare Γ0 W) (hfW : f ∉ W)
    (hb : ∀ (i : Nat) (d : PyData), ds[i]? = some d → ∀ σ' H' x, Same H0 H' → SameX q H H' → Sl H0 σ' Γ0 → wipe σ' W = wipe σ W → σ'[f]? = some (some (.ref q)) → Ls H' q (out i) → Im H' x d →
      ∀ N : L2.St → Hp → Prop, (∀ σ'' H'', SameX q H' H'' → Ls H'' q (out (i + 1)) → wipe σ'' W = wipe σ' W → N σ'' H'') → g x σ' H' fun σ2 H3 => WSs X body { D with nx := N, ct := N, bk := D.nx } σ2 H3)
    (hd : ∀ σ' H', SameX q H H' → Ls H' q (out ds.length) → wipe σ' W = wipe σ W → D.nx σ' H') (hp : PassesOwn (model X.prog X.w) X.A X.env X.xe := by exact PassesOwn.never) (hc : X.calm = true := by rfl) (hs : ∀ x, foldedSetIterable iter X.env x = pure x := by intro _; rfl) : WS X (.For tg iter body [] pos) D σ H := by
  refine ws_for hsrc hg (fun p H1 s1 hpq => ?_) hp hc hs
  have hq1 : Ls H1 q (out 0) := hq.mono s1
  refine ⟨fun i σ' H' => SameX q H1 H' ∧ Ls H' q (out i) ∧ wipe σ' W = wipe σ W, ⟨.refl _ _, hq1, rfl⟩, fun i σ' H' _ h => h.1.gk hq1 fun a e => ?_, fun i d σ' H' x H2 hd hP s3 im => ?_, fun σ' H' hP => hd σ' H' ((SameX.of s1).trans hP.1) hP.2.1 hP.2.2⟩
  · obtain ⟨h1, _⟩ := hpq a e
    refine hIq a h1 ?_
    cases H a with
    | none => exact .inr rfl
    | some o => exact .inl ⟨o, rfl⟩
  · have x2 : SameX q H H2 := (SameX.of s1).trans (hP.1.trans (.of s3))
    have im2 : wipe σ' W = wipe σ W := hP.2.2
    have hfs : σ'[f]? = some (some (.ref q)) := by rw [wipe_get im2 hfW]; exact hf
    exact hb i d hd σ' H2 x (x2.base s0 hq0) x2 (S0.wiped im2 hW) im2 hfs (hP.2.1.mono s3) im _ fun σ'' H'' a b c => ⟨hP.1.trans ((SameX.of s3).trans a), b, c.trans im2⟩
/-- a loop that changes only slots of W -/
theorem ws_pure (W : List Nat) (hsrc : SrcS X tg iter σ H ds Iq) (hg : PG X tg g) (S0 : Sl H σ Γ0) (hW : Bare Γ0 W)
    (hb : ∀ (i : Nat) (d : PyData), ds[i]? = some d → ∀ σ' H' x, Same H H' → Sl H' σ' Γ0 → wipe σ' W = wipe σ W → Im H' x d →
      ∀ N : L2.St → Hp → Prop, (∀ σ'' H'', Same H' H'' → wipe σ'' W = wipe σ' W → N σ'' H'') → g x σ' H' fun σ2 H3 => WSs X body { D with nx := N, ct := N, bk := D.nx } σ2 H3)
    (hd : ∀ σ' H', Same H H' → wipe σ' W = wipe σ W → D.nx σ' H') (hp : PassesOwn (model X.prog X.w) X.A X.env X.xe := by exact PassesOwn.never) (hc : X.calm = true := by rfl) (hs : ∀ x, foldedSetIterable iter X.env x = pure x := by intro _; rfl) : WS X (.For tg iter body [] pos) D σ H := by
  refine ws_for hsrc hg (fun p H1 s1 hpq => ?_) hp hc hs
  refine ⟨fun i σ' H' => Same H1 H' ∧ wipe σ' W = wipe σ W, ⟨Same.refl _, rfl⟩, fun i σ' H' _ h => .of h.1, fun i d σ' H' x H2 hd hP s3 im => ?_, fun σ' H' hP => hd σ' H' (s1.trans hP.1) hP.2⟩
  have s2 : Same H H2 := s1.trans (hP.1.trans s3)
  exact hb i d hd σ' H2 x s2 ((S0.mono s2).wiped hP.2 hW) hP.2 im _ fun σ'' H'' a c => ⟨hP.1.trans (s3.trans a), c.trans hP.2⟩
end
end K47
/-! M1: simplices, items, their order (no program). -/
namespace K47
open PySem PySem.Spec PyProof.Rows L2
open PySem.W (EachIs AllAlike Sortable dataLe dataLt alike alikeAll keyToks keyToksAll dataLt_tuple dataLt_cons dataLt_int dataLt_ints TotalLe sortLe_total sortLe ked_eqvAll)
abbrev Sim := List Int
abbrev Itm := List Int × Int
/-- a right simplex -/
inductive Sx : Sim → Prop
  | one (a : Int) (h : 0 ≤ a) (h2 : a ≤ 11) : Sx [a]
  | two (a b : Int) (h : 0 ≤ a) (h1 : a < b) (h2 : b ≤ 11) : Sx [a, b]
  | three (a b c : Int) (h : 0 ≤ a) (h1 : a < b) (h3 : b < c) (h2 : c ≤ 11) : Sx [a, b, c]
/-- its faces, ascending -/
def fc : Sim → List Sim
  | [a, b] => [[a], [b]]
  | [a, b, c] => [[a, b], [a, c], [b, c]]
  | _ => []
abbrev eS (s : List Int) : PyData := .tuple (s.map .int)
/-- data that compares -/
def Gd (n : Nat) (d : PyData) : Prop := d.canLay0 = true ∧ d.depth ≤ n
theorem Gd.shaped {n : Nat} {d : PyData} (h : Gd n d) (hn : n ≤ 64) : SeqAt.shaped d = true := by
  unfold SeqAt.shaped
  rw [h.1, decide_eq_true (Nat.le_trans h.2 hn)]; rfl
theorem canAll : ∀ (ds : List PyData), (∀ d ∈ ds, d.canLay0 = true) → PyData.canLayAll0 ds = true
  | [], _ => by simp [PyData.canLayAll0]
  | d :: r, h => by simp [PyData.canLayAll0, h d (by simp), canAll r fun x hx => h x (by simp [hx])]
theorem depAll {n : Nat} : ∀ (ds : List PyData), (∀ d ∈ ds, d.depth ≤ n) → PyData.depthAll ds ≤ n
  | [], _ => by simp [PyData.depthAll]
  | d :: r, h => by
    have h1 := h d (by simp)
    have h2 := depAll r fun x hx => h x (by simp [hx])
    simp only [PyData.depthAll]; omega
theorem gdd_tup {n : Nat} {ds : List PyData} (h : ∀ d ∈ ds, Gd n d) : Gd (n + 1) (.tuple ds) :=
  ⟨by simp only [PyData.canLay0]; exact canAll ds fun d hd => (h d hd).1, by simp only [PyData.depth]; have := depAll ds fun d hd => (h d hd).2; omega⟩
theorem gd_lst {n : Nat} {ds : List PyData} (h : ∀ d ∈ ds, Gd n d) : Gd (n + 1) (.list ds) :=
  ⟨by simp only [PyData.canLay0]; exact canAll ds fun d hd => (h d hd).1, by simp only [PyData.depth]; have := depAll ds fun d hd => (h d hd).2; omega⟩
theorem gd_int {n : Nat} (i : Int) : Gd n (.int i) := ⟨by simp [PyData.canLay0], by simp [PyData.depth]⟩
theorem gd_bool {n : Nat} (i : Bool) : Gd n (.bool i) := ⟨by simp [PyData.canLay0], by simp [PyData.depth]⟩
theorem gd_none {n : Nat} : Gd n .none := ⟨by simp [PyData.canLay0], by simp [PyData.depth]⟩
theorem gd_S (s : Sim) : Gd 1 (eS s) := gdd_tup fun d hd => by
  obtain ⟨i, _, rfl⟩ := List.mem_map.mp hd
  exact gd_int i
theorem Gd.mono {n m : Nat} {d : PyData} (h : Gd n d) (l : n ≤ m) : Gd m d := ⟨h.1, Nat.le_trans h.2 l⟩
theorem gd_oD {n : Nat} (o : Option Int) : Gd n (oD o) := by
  cases o with
  | none => exact gd_none
  | some i => exact gd_int i
theorem sh_S (s : Sim) : SeqAt.shaped (eS s) = true := (gd_S s).shaped (by decide)
theorem sh_Ss (xs : List Sim) : SeqAt.shaped (.list (xs.map eS)) = true := (gd_lst (n := 1) fun d hd => by
  obtain ⟨i, _, rfl⟩ := List.mem_map.mp hd
  exact gd_S i).shaped (by decide)
theorem eqv_S (a b : Sim) : PyData.eqv (eS a) (eS b) = decide (a = b) := by
  have e : PyData.eqv (eS a) (eS b) = PyData.eqvAll (a.map .int) (b.map .int) := by simp only [PyData.eqv]
  rw [e, ked_eqvAll]
theorem any_S (a : Sim) : ∀ xs : List Sim, ((xs.map eS).any fun z => PyData.eqv z (eS a)) = decide (a ∈ xs)
  | [] => by simp
  | x :: r => by
    rw [List.map_cons, List.any_cons, any_S a r, eqv_S]
    by_cases h : x = a
    · simp [h]
    · have h' : a ≠ x := fun e => h e.symm
      simp [h, h']
/-- the key of growth -/
def kI (p : Itm) : PyData := .tuple [.int p.2, .int (p.1.length : Nat), eS p.1]
def leI : Itm → Itm → Bool := dataLe false kI
def gr (l : List Itm) : List Itm := l.mergeSort leI
theorem alike_ints : ∀ a b : List Int, alikeAll (a.map .int) (b.map .int) = true
  | [], _ => by simp [alikeAll]
  | _ :: _, [] => by simp [alikeAll]
  | x :: a, y :: b => by simp [alikeAll, alike, alike_ints a b]
theorem alike_S (a b : Sim) : alike (eS a) (eS b) = true := by
  show alike (.tuple _) (.tuple _) = true
  simp only [alike]; exact alike_ints a b
theorem alike_kI (p q : Itm) : alike (kI p) (kI q) = true := by
  unfold kI
  simp only [alike, alikeAll, Bool.true_and, Bool.and_true]
  exact alike_ints p.1 q.1
theorem kI_sortable (l : List Itm) : Sortable (l.map kI) := .inl fun d hd => by
  obtain ⟨p, _, rfl⟩ := List.mem_map.mp hd
  exact ⟨_, _, rfl⟩
theorem kI_alike (l : List Itm) : AllAlike (l.map kI) := fun d hd d' hd' => by
  obtain ⟨p, _, rfl⟩ := List.mem_map.mp hd
  obtain ⟨q, _, rfl⟩ := List.mem_map.mp hd'
  exact alike_kI p q
theorem gd_kI (p : Itm) : Gd 2 (kI p) := gdd_tup fun d hd => by
  simp only [List.mem_cons, List.not_mem_nil, or_false] at hd
  rcases hd with rfl | rfl | rfl
  · exact gd_int _
  · exact gd_int _
  · exact gd_S _
/-- the key's order, plainly -/
def ltI (p q : Itm) : Prop := p.2 < q.2 ∨ (p.2 = q.2 ∧ (p.1.length < q.1.length ∨ (p.1.length = q.1.length ∧ p.1 < q.1)))
instance (p q : Itm) : Decidable (ltI p q) := by unfold ltI; exact inferInstance
theorem dataLt_kI (p q : Itm) : dataLt (kI p) (kI q) = decide (ltI p q) := by
  unfold kI
  rw [dataLt_tuple, dataLt_cons (by simp [alike]), dataLt_cons (by simp [alike]), dataLt_cons (alike_S _ _), dataLt_int, dataLt_int, eqv_S]
  have e : PyProof.Rows.lexLt itemOrd (keyToksAll []) (keyToksAll []) = false := lex_irrefl _
  have e2 : dataLt (eS p.1) (eS q.1) = decide (p.1 < q.1) := by
    rw [dataLt_tuple]; exact dataLt_ints _ _
  rw [e, e2]
  simp only [PyData.eqv, beq_iff_eq]
  unfold ltI
  by_cases h1 : p.2 = q.2
  · by_cases h2 : p.1.length = q.1.length
    · by_cases h3 : p.1 = q.1
      · simp [h1, h3, List.lt_irrefl]
      · simp [h1, h2, h3]
    · have h2' : ¬ ((p.1.length : Int) = (q.1.length : Int)) := by omega
      simp [h1, h2, h2']
  · simp [h1]
theorem leI_eq (p q : Itm) : leI p q = !decide (ltI q p) := by
  show (!dataLt (kI q) (kI p)) = _
  rw [dataLt_kI]
theorem ltI_trans {p q r : Itm} (h : ltI p q) (h2 : ltI q r) : ltI p r := by
  unfold ltI at *
  rcases h with h | ⟨h, h' | ⟨h', h''⟩⟩ <;> rcases h2 with g | ⟨g, g' | ⟨g', g''⟩⟩
  all_goals first
    | (left; omega)
    | (right; refine ⟨by omega, ?_⟩; first | (left; omega) | (right; exact ⟨by omega, List.lt_trans h'' g''⟩))
theorem ltI_irrefl (p : Itm) : ¬ ltI p p := by
  unfold ltI
  rintro (h | ⟨_, h | ⟨_, h⟩⟩)
  · omega
  · omega
  · exact List.lt_irrefl _ h
theorem ltI_tri (p q : Itm) (h : ¬ ltI p q) (h2 : ¬ ltI q p) : p = q := by
  unfold ltI at h h2
  have e1 : p.2 = q.2 := by omega
  have e2 : p.1.length = q.1.length := by omega
  have e3 : ¬ p.1 < q.1 := fun z => h (.inr ⟨e1, .inr ⟨e2, z⟩⟩)
  have e4 : ¬ q.1 < p.1 := fun z => h2 (.inr ⟨e1.symm, .inr ⟨e2.symm, z⟩⟩)
  have e5 : p.1 = q.1 := List.le_antisymm e4 e3
  exact Prod.ext e5 e1
theorem leI_total : TotalLe leI := sortLe_total (listOrd itemOrd) false fun b => keyToks (kI b)
theorem leI_trans (a b c : Itm) (h : leI a b = true) (h2 : leI b c = true) : leI a c = true := leI_total.trans a b c h h2
theorem leI_tot (a b : Itm) : (leI a b || leI b a) = true := Bool.or_eq_true_iff.mpr (leI_total.total a b)
theorem leI_anti {a b : Itm} (h : leI a b = true) (h2 : leI b a = true) : a = b := by
  rw [leI_eq] at h h2
  simp at h h2
  exact ltI_tri a b h2 h
theorem gr_perm (l : List Itm) : (gr l).Perm l := List.mergeSort_perm l leI
theorem gr_sorted (l : List Itm) : (gr l).Pairwise fun a b => leI a b = true := List.pairwise_mergeSort leI_trans leI_tot l
theorem sorted_unique {l m : List Itm} (h : l.Perm m) (hl : l.Pairwise fun a b => leI a b = true) (hm : m.Pairwise fun a b => leI a b = true) : l = m := h.eq_of_pairwise (fun a b _ _ h1 h2 => leI_anti h1 h2) hl hm
theorem gr_of_perm {l m : List Itm} (h : l.Perm m) : gr l = gr m := sorted_unique ((gr_perm l).trans (h.trans (gr_perm m).symm)) (gr_sorted l) (gr_sorted m)
theorem gr_id {l : List Itm} (h : l.Pairwise fun a b => leI a b = true) : gr l = l := sorted_unique (gr_perm l) (gr_sorted l) h
theorem gr_gr (l : List Itm) : gr (gr l) = gr l := gr_of_perm (gr_perm l)
theorem gr_filter (p : Itm → Bool) (l : List Itm) : (gr l).filter p = gr (l.filter p) := sorted_unique (((gr_perm l).filter p).trans (gr_perm _).symm) ((gr_sorted l).filter p) (gr_sorted _)
theorem gr_length (l : List Itm) : (gr l).length = l.length := (gr_perm l).length_eq
theorem mem_gr {l : List Itm} {p : Itm} : p ∈ gr l ↔ p ∈ l := (gr_perm l).mem_iff
end K47
/-! L1: the text by places, what the end will tell of it, the rule for a pure def. -/
namespace K47
open PySem PySem.Spec PyProof.Rows L2
/-- what the end tells of a def (dv: its defaults, none) -/
abbrev FnT (K : PySem.W.Frag) (x qual : Str) (st : Stmt) (f : Addr) (fd : FuncData) : Prop := FunD K x qual (defArgs st) (defBody st) (defScope st) [] [] f fd
/-- a def of the top stands where its name says -/
def Stands (K : PySem.W.Frag) (mg : Str → Option Value) (x : Str) (i : Nat) : Prop := ∃ f fd, FnT K x x (top i) f fd ∧ mg x = some (.ref f)
/-- a def's promise at the top: what its callers need -/
structure Df0 (P : Program) (w : World) (K : PySem.W.Frag) (mg : Str → Option Value) (base : Heap) (x : Str) (k : Nat) (sp : Sp) : Prop where
  ex : ∃ (f : Addr) (fd : FuncData) (ps : List Str), FnOk P w K mg base CX0 k f fd ps sp ∧ mg x = some (.ref f) ∧ PySem.W.keepIn K (.ref f) = true ∧ Binds K fd ps []
theorem Df0.df {P : Program} {w : World} {K : PySem.W.Frag} {mg : Str → Option Value} {base : Heap} {x : Str} {k : Nat} {sp : Sp} (D : Df0 P w K mg base x k sp) {X : Cx} (h1 : X.prog = P := by rfl) (h2 : X.w = w := by rfl) (h3 : X.K = K := by rfl) (h4 : X.mg = mg := by rfl) (h5 : X.base = base := by rfl) : Df X x k sp := by
  subst h1 h2 h3 h4 h5
  exact ⟨D.ex⟩
section
variable {P : Program} {w : World} {K : PySem.W.Frag} {mg : Str → Option Value} {base : Heap}
/-- THE RULE for a def of the top -/
theorem mk_def {x : Str} {i : Nat} {N ps : List Str} {k : Nat} {sp : Sp} (S : Stands K mg x i) (sc : FnScope N ps (defScope (top i))) (len : ∀ vs H Q E, sp vs H Q E → vs.length = ps.length)
    (hbind : ∀ (kV doc pm : Value) (an : Option Addr) (cdv ct : Value) (us : List Value), us.length = ps.length → bindArgs (PySem.W.fnOf x x (defArgs (top i)) (defBody (top i)) (defScope (top i)) .none kV doc pm an cdv ct) ⟨us, []⟩ = pure (ps.zip us))
    (hbody : ∀ (f : Addr) (cdv : Value) (A : Around) (outer : List Env) (s : Shared) (H : Hp) (vs : List V) (Q : VK) (E : XK), Room k (A.deeper (envOfC x (defScope (top i)) s.heap.objs.size f cdv)) → sp vs H Q E →
      WSs (cxOf CX0 P w K mg base N x (defScope (top i)) f cdv A outer s H E).nox (defBody (top i)) { nx := fun _ H' => Q .non H', rt := Q } (L2.start N vs) H) : Df0 P w K mg base x (k + 1) sp := by
  obtain ⟨f, fd, F, hm⟩ := S
  have G : FnOk P w K mg base CX0 (k + 1) f fd ps sp := F.ok sc len fun cdv A outer s H vs Q E hr h => ⟨_, PSs.nox pss_wss, hbody f cdv A outer s H vs Q E hr h⟩
  obtain ⟨oc, od, dV, kV, doc, pm, an, cdv, ct, osl, rfl, lk, hcd, hd, _⟩ := id F.ex
  obtain rfl : dV = .none := by
    rcases hd with ⟨_, e⟩ | ⟨e, _⟩
    · exact e
    · exact absurd rfl e
  exact ⟨f, _, ps, G, hm, F.kp, .all (hbind kV doc pm an cdv ct)⟩
/-- .. a pure one -/
theorem mk_pu {x : Str} {i : Nat} {N ps : List Str} {k : Nat} {R : List Rs → Rs → Prop} (S : Stands K mg x i) (sc : FnScope N ps (defScope (top i))) (len : ∀ as r, R as r → as.length = ps.length)
    (hbind : ∀ (kV doc pm : Value) (an : Option Addr) (cdv ct : Value) (us : List Value), us.length = ps.length → bindArgs (PySem.W.fnOf x x (defArgs (top i)) (defBody (top i)) (defScope (top i)) .none kV doc pm an cdv ct) ⟨us, []⟩ = pure (ps.zip us))
    (hbody : ∀ (f : Addr) (cdv : Value) (A : Around) (outer : List Env) (s : Shared) (H : Hp) (E : XK), Room k (A.deeper (envOfC x (defScope (top i)) s.heap.objs.size f cdv)) → ∀ (as : List Rs) (r : Rs), R as r →
      Go (cxOf CX0 P w K mg base N x (defScope (top i)) f cdv A outer s H E).nox (as.map some ++ List.replicate (N.length - as.length) none) (defBody (top i)) r) : Df0 P w K mg base x (k + 1) (spU R) := by
  refine mk_def S sc (fun vs H Q E h => ?_) hbind fun f cdv A outer s H vs Q E hr h => ?_
  · obtain ⟨as, r, a, hR, _⟩ := h
    rw [Paired.length a]; exact len as r hR
  · obtain ⟨as, r, a, hR, q⟩ := h
    exact hbody f cdv A outer s H E hr as r hR _ H (sl_start' a) _ q
theorem mk_pun {x : Str} {i : Nat} {N ps : List Str} {k : Nat} {R : List Rs → List PyData → Prop} (S : Stands K mg x i) (sc : FnScope N ps (defScope (top i))) (len : ∀ as r, R as r → as.length = ps.length)
    (hbind : ∀ (kV doc pm : Value) (an : Option Addr) (cdv ct : Value) (us : List Value), us.length = ps.length → bindArgs (PySem.W.fnOf x x (defArgs (top i)) (defBody (top i)) (defScope (top i)) .none kV doc pm an cdv ct) ⟨us, []⟩ = pure (ps.zip us))
    (hbody : ∀ (f : Addr) (cdv : Value) (A : Around) (outer : List Env) (s : Shared) (H : Hp) (E : XK), Room k (A.deeper (envOfC x (defScope (top i)) s.heap.objs.size f cdv)) → ∀ (as : List Rs) (r : List PyData), R as r →
      GoN (cxOf CX0 P w K mg base N x (defScope (top i)) f cdv A outer s H E).nox (as.map some ++ List.replicate (N.length - as.length) none) (defBody (top i)) r) : Df0 P w K mg base x (k + 1) (spN R) := by
  refine mk_def S sc (fun vs H Q E h => ?_) hbind fun f cdv A outer s H vs Q E hr h => ?_
  · obtain ⟨as, r, a, hR, _⟩ := h
    rw [Paired.length a]; exact len as r hR
  · obtain ⟨as, r, a, hR, q⟩ := h
    exact hbody f cdv A outer s H E hr as r hR _ H (sl_start' a) _ q
/-- a def that only looks, and gives None -/
theorem mk_pu0 {x : Str} {i : Nat} {N ps : List Str} {k : Nat} {R : List Rs → Prop} (S : Stands K mg x i) (sc : FnScope N ps (defScope (top i))) (len : ∀ as, R as → as.length = ps.length)
    (hbind : ∀ (kV doc pm : Value) (an : Option Addr) (cdv ct : Value) (us : List Value), us.length = ps.length → bindArgs (PySem.W.fnOf x x (defArgs (top i)) (defBody (top i)) (defScope (top i)) .none kV doc pm an cdv ct) ⟨us, []⟩ = pure (ps.zip us))
    (hbody : ∀ (f : Addr) (cdv : Value) (A : Around) (outer : List Env) (s : Shared) (H : Hp) (E : XK), Room k (A.deeper (envOfC x (defScope (top i)) s.heap.objs.size f cdv)) → ∀ (as : List Rs), R as →
      ∀ (σ : L2.St) (H1 : Hp), Sl H1 σ (as.map some ++ List.replicate (N.length - as.length) none) → ∀ D : Ends, (∀ σ' H', Same H1 H' → D.nx σ' H') →
      WSs (cxOf CX0 P w K mg base N x (defScope (top i)) f cdv A outer s H E).nox (defBody (top i)) D σ H1) : Df0 P w K mg base x (k + 1) (spU fun as r => R as ∧ r = .d .none) := by
  refine mk_def S sc (fun vs H Q E h => ?_) hbind fun f cdv A outer s H vs Q E hr h => ?_
  · obtain ⟨as, r, a, hR, _⟩ := h
    rw [Paired.length a]; exact len as hR.1
  · obtain ⟨as, r, a, ⟨hR, rfl⟩, q⟩ := h
    exact hbody f cdv A outer s H E hr as hR _ H (sl_start' a) _ fun _ H' s => q _ H' s .non
end
/-! ### encoders -/
abbrev iN (l : List Nat) : List Int := List.map (α := Nat) (β := Int) (fun n => (n : Int)) l
abbrev eC (c : List Nat) : PyData := .tuple ((iN c).map .int)
end K47
/-! P1: is_number, is_height, added -/
namespace K47
open PySem PySem.Spec PyProof.Rows L2
section
variable {P : Program} {w : World} {K : PySem.W.Frag} {mg : Str → Option Value} {base : Heap}
/-! ### is_number, of ints -/
def rNum : List Rs → Rs → Prop := fun as r => ∃ i a b : Int, as = [.d (.int i), .d (.int a), .d (.int b)] ∧ r = .d (.bool (decide (a ≤ i) && decide (i ≤ b)))
theorem sc_19 : FnScope ["value", "least", "most"] ["value", "least", "most"] (defScope (top 19)) := ⟨rfl, rfl, rfl, by decide +kernel, rfl, by decide +kernel, by decide +kernel⟩
theorem ok_is_number (M : Mg mg) (S : Stands K mg "is_number" 19) : Df0 P w K mg base "is_number" 1 (spU rNum) := by
  refine mk_pu S sc_19 (fun as r h => by obtain ⟨i, a, b, rfl, _⟩ := h; rfl) (fun _ _ _ _ _ _ us hl => match us, hl with | [_, _, _], _ => rfl) fun f cdv A outer s H E hr as r h => ?_
  obtain ⟨i, a, b, rfl, rfl⟩ := h
  have e : (decide (a ≤ i) && decide (i ≤ b)) = (true && (!false && (decide (a ≤ i) && decide (i ≤ b)))) := by simp
  rw [e]
  exact go_ret (pu_and (isi_int M (pu_var 0)) fun _ => pu_and (pu_not (isi_bool M (pu_var 0))) fun _ => pu_one (pu_chain (pu_var 1) (pu_var 0) (pu_var 2)))
/-! ### is_height -/
def rHgt : List Rs → Rs → Prop := fun as r => ∃ i : Int, as = [.d (.int i)] ∧ r = .d (.bool (decide (-1000 ≤ i) && decide (i ≤ 1000)))
theorem sc_20 : FnScope ["value"] ["value"] (defScope (top 20)) := ⟨rfl, rfl, rfl, by decide +kernel, rfl, by decide +kernel, by decide +kernel⟩
theorem ok_is_height (M : Mg mg) (S : Stands K mg "is_height" 20) (D : Df0 P w K mg base "is_number" 1 (spU rNum)) : Df0 P w K mg base "is_height" 2 (spU rHgt) := by
  refine mk_pu S sc_20 (fun as r h => by obtain ⟨i, rfl, _⟩ := h; rfl) (fun _ _ _ _ _ _ us hl => match us, hl with | [_], _ => rfl) fun f cdv A outer s H E hr as r h => ?_
  obtain ⟨i, rfl, rfl⟩ := h
  exact go_ret (pu_call D.df hr (pua_cons (pu_var 0) (pua_cons (pu_neg (pu_gint M.hm)) (pua_cons (pu_gint M.hm) pua_nil))) ⟨i, -1000, 1000, rfl, rfl⟩)
/-! ### added -/
def symd (a b : List Int) : List Int := (a.filter fun x => decide (x ∉ b)) ++ b.filter fun x => decide (x ∉ a)
def addI (a b : List Int) : List Int := (symd a b).mergeSort (fun x y => decide (x ≤ y))
theorem sort_uniq {l m : List Int} (h : l.Perm m) (hs : l.Pairwise (· ≤ ·)) : l = m.mergeSort (fun x y => decide (x ≤ y)) := by
  have h2 : (m.mergeSort (fun x y => decide (x ≤ y))).Pairwise (· ≤ ·) := by
    have := List.pairwise_mergeSort (le := fun x y : Int => decide (x ≤ y)) (by intro a b c; simp; omega) (by intro a b; simp; omega) m
    exact this.imp (by intro a b; simp)
  have h3 : l.Perm (m.mergeSort (fun x y => decide (x ≤ y))) := h.trans (List.mergeSort_perm m _).symm
  exact h3.eq_of_pairwise (fun a b _ _ h1 h2 => Int.le_antisymm h1 h2) hs h2
def rAdded : List Rs → Rs → Prop := fun as r => ∃ a b : List Int, as = [.d (eS a), .d (eS b)] ∧ a.length ≤ 10000 ∧ b.length ≤ 10000 ∧ r = .d (eS (addI a b))
theorem sc_31 : FnScope ["first", "second", "found", "place"] ["first", "second"] (defScope (top 31)) := ⟨rfl, rfl, rfl, by decide +kernel, rfl, by decide +kernel, by decide +kernel⟩
theorem ok_added (M : Mg mg) (S : Stands K mg "added" 31) : Df0 P w K mg base "added" 1 (spU rAdded) := by
  refine mk_pu S sc_31 (fun as r h => by obtain ⟨a, b, rfl, _⟩ := h; rfl) (fun _ _ _ _ _ _ us hl => match us, hl with | [_, _], _ => rfl) fun f cdv A outer s H E hr as r h => ?_
  obtain ⟨a, b, rfl, ha, hb, rfl⟩ := h
  refine go_setLc 2 (lcd1 ["first", "second", "found", "place"] (defScope (top 31)) 3 (enc := PyData.int) (fun x => !decide (x ∈ b)) PyData.int (src_tup (pu_var 0)) sc_31.nd (by omega) (fun x _ _ _ _ _ _ => .one (put_cmp op_notIn_seq rv_ninT (by rfl) (pu_var 3) (pu_var 1))) (fun x _ _ _ _ _ _ _ => pu_var 3)) ?_
  refine go_ret (pu_tuple M (pun_sortedI M (ns := symd a b) (ms := addI a b) ((pun_catL (pu_var 2) (lcd1 ["first", "second", "found", "place"] (defScope (top 31)) 3 (enc := PyData.int) (fun x => !decide (x ∈ a)) PyData.int (src_tup (pu_var 1)) sc_31.nd (by omega) (fun x _ _ _ _ _ _ => .one (put_cmp op_notIn_seq rv_ninT (by rfl) (pu_var 3) (pu_var 0))) (fun x _ _ _ _ _ _ _ => pu_var 3)).pun.pu ?_).to ?_).pu ?_).pu)
  · have h1 := List.length_filter_le (fun x => !decide (x ∈ b)) a
    have h2 := List.length_filter_le (fun x => !decide (x ∈ a)) b
    rw [List.length_map, List.length_map]; omega
  · rw [symd, List.map_append]
    simp only [decide_not]
  · intro ns' h1 h2
    exact sort_uniq h1 h2
end
end K47
/-! P2: is_simplex, faces_of, growing_key, grown, order_of, last_of, bar_key, sorted_bars -/
namespace K47
open PySem PySem.Spec PyProof.Rows L2
open PySem.W (EachIs AllAlike Sortable dataLe dataLt alike alikeAll keyToks keyToksAll)
section
variable {P : Program} {w : World} {K : PySem.W.Frag} {mg : Str → Option Value} {base : Heap}
theorem atI_nat' {α : Type} {xs : List α} {n : Nat} {i : Int} {x : α} (h : xs[n]? = some x) (e : i = n) : atI xs i = some x := by
  subst e
  have hl := (List.getElem?_eq_some_iff.mp h).1
  unfold atI
  have e : ixN xs.length (n : Int) = some n := by unfold ixN; rw [if_pos (by omega), if_pos (by omega)]; simp
  rw [e]; exact h
theorem map_bools {α : Type} {g : α → Bool} {xs : List α} : (xs.map fun x => PyData.bool (g x)) = (xs.map g).map .bool := by simp
/-! ### is_simplex -/
def rSimp : List Rs → Rs → Prop := fun as r => ∃ s, Sx s ∧ as = [.d (eS s)] ∧ r = .d (.bool true)
theorem Sx.len {s : Sim} (h : Sx s) : 1 ≤ s.length ∧ s.length ≤ 3 := by cases h <;> simp
theorem Sx.bd {s : Sim} (h : Sx s) : ∀ x ∈ s, 0 ≤ x ∧ x ≤ 11 := by
  cases h <;> intro x hx <;> simp at hx <;> omega
theorem Sx.asc {s : Sim} (h : Sx s) : ∀ (i : Nat) (x y : Int), s[i]? = some x → s[i + 1]? = some y → x < y := by
  cases h with
  | one a => intro i x y h1 h2; simp at h2
  | two a b =>
    intro i x y h1 h2
    match i with
    | 0 => simp at h1 h2; omega
    | i + 1 => simp at h2
  | three a b c =>
    intro i x y h1 h2
    match i with
    | 0 => simp at h1 h2; omega
    | 1 => simp at h1 h2; omega
    | i + 2 => simp at h2
theorem sc_21 : FnScope ["value", "at", "vertex"] ["value"] (defScope (top 21)) := ⟨rfl, rfl, rfl, by decide +kernel, rfl, by decide +kernel, by decide +kernel⟩
theorem ok_is_simplex (M : Mg mg) (S : Stands K mg "is_simplex" 21) (D : Df0 P w K mg base "is_number" 1 (spU rNum)) : Df0 P w K mg base "is_simplex" 2 (spU rSimp) := by
  refine mk_pu S sc_21 (fun as r h => by obtain ⟨i, _, rfl, _⟩ := h; rfl) (fun _ _ _ _ _ _ us hl => match us, hl with | [_], _ => rfl) fun f cdv A outer s H E hr as r h => ?_
  obtain ⟨t, ht, rfl, rfl⟩ := h
  obtain ⟨l1, l2⟩ := ht.len
  refine go_if (b := false) ((PuB.t (pub_or (put_not (pu_val (isi_tuple M (pu_var 0)))) fun _ => pub_or1 (put_not (put_chain pu_int (pu_lenT M (pu_var 0)) (pu_gint M.vsm))))).to ?_) (fun h => nomatch h) fun _ => ?_
  · simp; omega
  refine go_if (b := false) ((put_not (pu_val (pu_all (bs := t.map fun x => decide (0 ≤ x) && decide (x ≤ 11)) M rfl (((lcd1a ["value", "at", "vertex"] (defScope (top 21)) 2 (enc := PyData.int) (fun x => .bool (decide (0 ≤ x) && decide (x ≤ 11))) (src_tup (pu_var 0)) sc_21.nd (by omega)
    (fun x hx _ _ _ _ _ => pu_call D.df hr (pua_cons (pu_var 2) (pua_cons pu_int (pua_cons (pu_gint M.vm) pua_nil))) ⟨x, 0, 11, rfl, rfl⟩)).to map_bools).pun.pu)))).to ?_) (fun h => nomatch h) fun _ => ?_
  · simp only [Bool.not_eq_false', List.all_map, List.all_eq_true, Function.comp, id, Bool.and_eq_true, decide_eq_true_eq]
    exact ht.bd
  refine go_ret ((pu_all (bs := (List.range (t.length - 1)).map fun i => true) M rfl (((lcd1a ["value", "at", "vertex"] (defScope (top 21)) 1 (xs := List.range (t.length - 1)) (enc := fun i => PyData.int (0 + (i : Nat))) (fun i => .bool true) ((src_rng1 M (pu_sub (pu_lenT M (pu_var 0)) pu_int) (by simp; omega)).to (by unfold rngD; congr 2; simp)) sc_21.nd (by simp; omega) (fun i hi _ _ _ _ _ => ?_))).to map_bools).pun.pu).to ?_)
  · rw [List.mem_range] at hi
    have h1 : t[i]? = some t[i] := List.getElem?_eq_getElem (by omega)
    have h2 : t[i + 1]? = some t[i + 1] := List.getElem?_eq_getElem (by omega)
    have h3 := ht.asc i _ _ h1 h2
    have e : true = decide (t[i] < t[i + 1]) := by simp [h3]
    rw [e]
    exact pu_cmp op_lt rv_lt (by rfl) (pu_ixT (pu_var 0) (pu_var 1) (atI_nat' (n := i) (by rw [List.getElem?_map, h1]; rfl) (by omega))) (pu_ixT (pu_var 0) (pu_add (pu_var 1) pu_int) (atI_nat' (n := i + 1) (by rw [List.getElem?_map, h2]; rfl) (by omega)))
  · simp
end
end K47
/-! P3: faces_of, growing_key, grown, order_of, last_of -/
namespace K47
open PySem PySem.Spec PyProof.Rows L2
open PySem.W (EachIs AllAlike Sortable dataLe dataLt alike alikeAll keyToks keyToksAll dataLt_tuple dataLt_ints)
section
variable {P : Program} {w : World} {K : PySem.W.Frag} {mg : Str → Option Value} {base : Heap}
theorem cutD_take {ds : List PyData} {i : Int} {n : Nat} (e : i = n) (h : n ≤ ds.length) : cutD ds none (some i) = ds.take n := by
  subst e
  unfold cutD
  rw [HT.sIx_nat, HT.sIx_none, Nat.min_eq_left h]; simp
theorem cutD_drop {ds : List PyData} {i : Int} {n : Nat} (e : i = n) (h : n ≤ ds.length) : cutD ds (some i) none = ds.drop n := by
  subst e
  unfold cutD
  rw [HT.sIx_nat, HT.sIx_none, Nat.min_eq_left h]
  apply List.take_of_length_le
  simp
/-! ### faces_of -/
def leS : Sim → Sim → Bool := dataLe false eS
theorem dataLt_S (a b : Sim) : dataLt (eS a) (eS b) = decide (a < b) := by rw [dataLt_tuple]; exact dataLt_ints _ _
theorem leS_eq (a b : Sim) : leS a b = !decide (b < a) := by
  show (!dataLt (eS b) (eS a)) = _
  rw [dataLt_S]
theorem leS_total : PySem.W.TotalLe leS := PySem.W.sortLe_total (listOrd itemOrd) false fun b => keyToks (eS b)
theorem leS_trans (a b c : Sim) (h : leS a b = true) (h2 : leS b c = true) : leS a c = true := leS_total.trans a b c h h2
theorem leS_tot (a b : Sim) : (leS a b || leS b a) = true := Bool.or_eq_true_iff.mpr (leS_total.total a b)
theorem leS_anti {a b : Sim} (h : leS a b = true) (h2 : leS b a = true) : a = b := by
  rw [leS_eq] at h h2
  simp at h h2
  exact List.le_antisymm h h2
theorem sortS_unique {l m : List Sim} (h : l.Perm m) (hl : l.Pairwise fun a b => leS a b = true) : l = m.mergeSort leS :=
  (h.trans (List.mergeSort_perm m leS).symm).eq_of_pairwise (fun a b _ _ h1 h2 => leS_anti h1 h2) hl (List.pairwise_mergeSort leS_trans leS_tot m)
/-- the faces as they come by leaving one out -/
def fo (s : Sim) : List Sim := (List.range s.length).map fun i => s.take i ++ s.drop (i + 1)
theorem fo_fc {s : Sim} (h : Sx s) (h2 : s.length ≠ 1) : fo s = (fc s).reverse := by
  cases h with
  | one a => simp at h2
  | two a b => rfl
  | three a b c => rfl
theorem fc_asc {s : Sim} (h : Sx s) : (fc s).Pairwise fun a b => leS a b = true := by
  cases h with
  | one a => exact .nil
  | two a b h h1 => simp [fc, leS_eq, List.cons_le_cons_iff]; omega
  | three a b c h h1 h2 => simp [fc, leS_eq, List.cons_le_cons_iff]; omega
theorem fo_sort {s : Sim} (h : Sx s) (h2 : s.length ≠ 1) : (fo s).mergeSort leS = fc s := (sortS_unique (by rw [fo_fc h h2]; exact (List.reverse_perm _).symm) (fc_asc h)).symm
def rFac : List Rs → List PyData → Prop := fun as r => ∃ s, Sx s ∧ as = [.d (eS s)] ∧ r = (fc s).map eS
theorem sc_22 : FnScope ["simplex", "at"] ["simplex"] (defScope (top 22)) := ⟨rfl, rfl, rfl, by decide +kernel, rfl, by decide +kernel, by decide +kernel⟩
theorem S_alike (l : List Sim) : AllAlike (l.map eS) := fun d hd d' hd' => by
  obtain ⟨p, _, rfl⟩ := List.mem_map.mp hd
  obtain ⟨q, _, rfl⟩ := List.mem_map.mp hd'
  exact alike_S p q
theorem ok_faces_of (M : Mg mg) (S : Stands K mg "faces_of" 22) : Df0 P w K mg base "faces_of" 1 (spN rFac) := by
  refine mk_pun S sc_22 (fun as r h => by obtain ⟨i, _, rfl, _⟩ := h; rfl) (fun _ _ _ _ _ _ us hl => match us, hl with | [_], _ => rfl) fun f cdv A outer s H E hr as r h => ?_
  obtain ⟨t, ht, rfl, rfl⟩ := h
  obtain ⟨l1, l2⟩ := ht.len
  refine gon_if (b := decide ((t.length : Int) = 1)) ((put_cmp op_eq rv_eqI (by rfl) (pu_lenT M (pu_var 0)) pu_int).to (by simp)) (fun h => ?_) (fun h => ?_)
  · have e : fc t = [] := by
      have h : (t.length : Int) = 1 := of_decide_eq_true h
      cases ht with
      | one a => rfl
      | two a b => simp at h
      | three a b c => simp at h
    rw [e]
    exact gon_ret (pun_lst pua_nil)
  · have h : ¬ (t.length : Int) = 1 := of_decide_eq_false h
    have hk : ∀ s : Sim, (fun i => eS (s.take i ++ s.drop (i + 1))) = eS ∘ fun i => s.take i ++ s.drop (i + 1) := fun _ => rfl
    refine gon_ret ((pun_sortedD (β := Sim) (enc := eS) (bs := fo t) M (by have := hr.un; show (A.deeper _).units + 100 < cLine; omega) (((lcd1a ["simplex", "at"] (defScope (top 22)) 1 (xs := List.range t.length) (enc := fun i => PyData.int (0 + (i : Nat))) (fun i => eS (t.take i ++ t.drop (i + 1)))
      ((src_rng1 M (pu_lenT M (pu_var 0)) (by simp; omega)).to (by unfold rngD; simp)) sc_22.nd (by simp; omega) (fun i hi _ _ _ _ _ => ?_))).to (by unfold fo; rw [List.map_map]; rfl)).pun.pu ?_ ?_ ?_).to ?_)
    · rw [List.mem_range] at hi
      refine (pu_catT (pu_slT (pu_var 0) puo_none (puo_some (pu_var 1))) (pu_slT (pu_var 0) (puo_some (pu_add (pu_var 1) pu_int)) puo_none) ?_).to ?_
      · rw [cutD_take (n := i) (by omega) (by simp; omega), cutD_drop (n := i + 1) (by omega) (by simp; omega)]
        simp; omega
      · rw [cutD_take (n := i) (by omega) (by simp; omega), cutD_drop (n := i + 1) (by omega) (by simp; omega)]
        simp [eS]
    · exact S_alike _
    · refine .inl fun d hd => ?_
      obtain ⟨p, hp, rfl⟩ := List.mem_map.mp hd
      cases ht with
      | one a => simp at h
      | two a b =>
        simp [fo, List.range_succ] at hp
        rcases hp with rfl | rfl <;> exact ⟨_, _, rfl⟩
      | three a b c =>
        simp [fo, List.range_succ] at hp
        rcases hp with rfl | rfl | rfl <;> exact ⟨_, _, rfl⟩
    · intro s hs
      have := (gd_S s).2; omega
    · have e := fo_sort ht (by omega)
      unfold leS at e
      rw [e]
/-! ### growing_key, grown, order_of -/
def rKey : List Rs → Rs → Prop := fun as r => ∃ p : Itm, as = [.d (eTI p)] ∧ r = .d (kI p)
theorem sc_25 : FnScope ["item", "simplex", "height"] ["item"] (defScope (top 25)) := ⟨rfl, rfl, rfl, by decide +kernel, rfl, by decide +kernel, by decide +kernel⟩
theorem ok_growing_key (M : Mg mg) (S : Stands K mg "growing_key" 25) : Df0 P w K mg base "growing_key" 1 (spU rKey) := by
  refine mk_pu S sc_25 (fun as r h => by obtain ⟨i, rfl, _⟩ := h; rfl) (fun _ _ _ _ _ _ us hl => match us, hl with | [_], _ => rfl) fun f cdv A outer s H E hr as r h => ?_
  obtain ⟨t, rfl, rfl⟩ := h
  refine go_asg (vs := [1, 2]) (pu_var 0) (pg_2 1 2 sc_25.nd) gd_2 ?_
  exact go_ret ((pu_tup (ds := [.int t.2, .int (t.1.length : Nat), eS t.1]) (pua_cons (pu_var 2) (pua_cons ((pu_lenT M (pu_var 1)).to (by simp)) (pua_cons (pu_var 1) pua_nil)))).to rfl)
def rGrown : List Rs → List PyData → Prop := fun as r => ∃ l : List Itm, as = [.l (l.map eTI)] ∧ r = (gr l).map eTI
theorem sc_26 : FnScope ["shape"] ["shape"] (defScope (top 26)) := ⟨rfl, rfl, rfl, by decide +kernel, rfl, by decide +kernel, by decide +kernel⟩
theorem ok_grown (M : Mg mg) (S : Stands K mg "grown" 26) (D : Df0 P w K mg base "growing_key" 1 (spU rKey)) : Df0 P w K mg base "grown" 3 (spN rGrown) := by
  refine mk_pun S sc_26 (fun as r h => by obtain ⟨i, rfl, _⟩ := h; rfl) (fun _ _ _ _ _ _ us hl => match us, hl with | [_], _ => rfl) fun f cdv A outer s H E hr as r h => ?_
  obtain ⟨l, rfl, rfl⟩ := h
  exact gon_ret (pun_sortedK (enc := eTI) (key := kI) (bs := l) M D.df hr (pu_var 0) (fun p _ => ⟨p, rfl, rfl⟩) (kI_alike l) (kI_sortable l) (fun p _ => by have := (gd_kI p).2; omega))
def rOrd : List Rs → List PyData → Prop := fun as r => ∃ l : List Itm, as = [.l (l.map eTI)] ∧ l.length ≤ 1000 ∧ r = ((gr l).map (·.1)).map eS
theorem sc_27 : FnScope ["shape", "simplex", "_"] ["shape"] (defScope (top 27)) := ⟨rfl, rfl, rfl, by decide +kernel, rfl, by decide +kernel, by decide +kernel⟩
theorem ok_order_of (M : Mg mg) (S : Stands K mg "order_of" 27) (D : Df0 P w K mg base "grown" 3 (spN rGrown)) : Df0 P w K mg base "order_of" 4 (spN rOrd) := by
  refine mk_pun S sc_27 (fun as r h => by obtain ⟨i, rfl, _⟩ := h; rfl) (fun _ _ _ _ _ _ us hl => match us, hl with | [_], _ => rfl) fun f cdv A outer s H E hr as r h => ?_
  obtain ⟨l, rfl, hz, rfl⟩ := h
  refine gon_ret (((lcd2a (own := [("simplex", 1), ("_", 2)]) (g := g2 K 1 2) ["shape", "simplex", "_"] (defScope (top 27)) (fun p : Itm => [some (.l (l.map eTI)), some (.d (eS p.1)), some (.d (.int p.2))]) (fun p => eS p.1) (src_list (pun_call D.df hr (pua_cons (pu_var 0) pua_nil) ⟨l, rfl, rfl⟩).pu) sc_27.nd (by rw [gr_length]; omega)
    (fun _ _ _ _ _ => pg_2 1 2 sc_27.nd) (fun p _ => gd_2) (fun p hp _ _ _ _ _ => pu_var 1))).pun.to ?_)
  simp
/-! ### last_of -/
def rLast : List Rs → Rs → Prop := fun as r => ∃ l : List Int, as = [.d (eS l)] ∧ r = .d (oD l.getLast?)
theorem sc_32 : FnScope ["chain"] ["chain"] (defScope (top 32)) := ⟨rfl, rfl, rfl, by decide +kernel, rfl, by decide +kernel, by decide +kernel⟩
theorem atI_last {α : Type} {xs : List α} {x : α} (h : xs.getLast? = some x) : atI xs (-1) = some x := by
  cases xs with
  | nil => simp at h
  | cons y ys =>
    rw [List.getLast?_eq_getElem?] at h
    unfold atI
    have e : ixN (y :: ys).length (-1) = some ((y :: ys).length - 1) := by
      unfold ixN
      rw [if_neg (by omega), if_pos (by simp; omega)]
      simp; omega
    rw [e]; exact h
theorem ok_last_of (M : Mg mg) (S : Stands K mg "last_of" 32) : Df0 P w K mg base "last_of" 1 (spU rLast) := by
  refine mk_pu S sc_32 (fun as r h => by obtain ⟨i, rfl, _⟩ := h; rfl) (fun _ _ _ _ _ _ us hl => match us, hl with | [_], _ => rfl) fun f cdv A outer s H E hr as r h => ?_
  obtain ⟨l, rfl, rfl⟩ := h
  refine go_ret (pu_if (put_truT (pu_var 0)) (fun h => ?_) fun h => ?_)
  · cases e : l.getLast? with
    | none =>
      rw [List.getLast?_eq_none_iff] at e
      subst e; simp at h
    | some x =>
      refine pu_ixT (pu_var 0) (pu_neg pu_int) (atI_last ?_)
      rw [List.getLast?_map, e]; rfl
  · have e : l = [] := by
      cases l with
      | nil => rfl
      | cons a l => simp at h
    subst e
    exact pu_non
end
end K47
/-! P4: boundary -/
namespace K47
open PySem PySem.Spec PyProof.Rows L2
open PySem.W (EachIs AllAlike Sortable dataLe dataLt alike alikeAll keyToks keyToksAll dataLt_tuple dataLt_ints)
/-- the place of a simplex, as an int -/
def ix (os : List Sim) (f : Sim) : Int := (os.idxOf f : Nat)
theorem pu_indexS {X : Cx} {Γ : Gm} {o e : Expr} {apos pos : Pos} {os : List Sim} {f : Sim} (hu : X.A.units + 65 < cLine) (ho : Pu X Γ o (.l (os.map eS))) (he : Pu X Γ e (.d (eS f))) (hf : f ∈ os)
    (hbase : attributeBase o "index" X.env (eval o X.env) = eval o X.env := by rfl)
    (hfew : ((backTo pos (starEach [e] X.env)).all (fun x => !x.1) && (backToKw pos (keywordEach [] X.env)).all (fun x => x.1.isSome)
      && decide ([e].length + ([] : List Keyword).length + (if ([] : List Keyword).isEmpty then 0 else 1) < 30)) = true := by rfl)
    (hline : (apos.endLine == pos.line) = true := by rfl) (hs : starEach [e] X.env = [(false, eval e X.env)] := by rfl) : Pu X Γ (.Call (.Attribute o "index" apos) [e] [] pos) (.d (.int (ix os f))) := by
  have hl : os.idxOf f < os.length := List.idxOf_lt_length_of_mem hf
  refine pu_index (n := os.idxOf f) (z := eS f) hu ho he (sh_Ss os) (sh_S f) ?_ (by rw [eqv_S]; simp) (fun m z' hm hz => ?_) hbase hfew hline hs
  · rw [List.getElem?_map, List.getElem?_eq_getElem hl, List.getElem_idxOf hl]; rfl
  · rw [List.getElem?_map] at hz
    cases e : os[m]? with
    | none => rw [e] at hz; cases hz
    | some g =>
      rw [e] at hz
      cases hz
      rw [eqv_S]
      have : g ≠ f := fun z => by
        subst z
        obtain ⟨h1, h2⟩ := List.getElem?_eq_some_iff.mp e
        have hm' : m < os.findIdx (· == g) := hm
        have := List.not_of_lt_findIdx hm'
        rw [h2] at this
        simp at this
      simp [this]
theorem insort_ints (ns : List Int) (ms : List Int) (e : ms = ns.mergeSort (fun x y => decide (x ≤ y))) : ∀ ns' : List Int, ns'.Perm ns → ns'.Pairwise (· ≤ ·) → ns' = ms := fun ns' h1 h2 => by rw [e]; exact sort_uniq h1 h2
/-- the places of the faces, ascending -/
def bd (os : List Sim) (s : Sim) : List Int := ((fc s).map (ix os)).mergeSort (fun x y => decide (x ≤ y))
theorem addI_nil (l : List Int) (h : l.Pairwise (· ≤ ·)) : addI [] l = l := by
  unfold addI symd
  have e : (List.filter (fun x => decide (x ∉ l)) [] ++ List.filter (fun x => decide (x ∉ ([] : List Int))) l) = l := by simp
  rw [e]
  exact (sort_uniq (List.Perm.refl _) h).symm
theorem sorted_sort (l : List Int) : (l.mergeSort (fun x y => decide (x ≤ y))).Pairwise (· ≤ ·) := by
  have := List.pairwise_mergeSort (le := fun x y : Int => decide (x ≤ y)) (by intro a b c; simp; omega) (by intro a b; simp; omega) l
  exact this.imp (by intro a b; simp)
theorem fc_len {s : Sim} : (fc s).length ≤ 3 := by
  unfold fc
  split <;> simp
theorem bd_len {os : List Sim} {s : Sim} : (bd os s).length ≤ 3 := by
  unfold bd
  rw [List.length_mergeSort, List.length_map]; exact fc_len
section
variable {P : Program} {w : World} {K : PySem.W.Frag} {mg : Str → Option Value} {base : Heap}
def rBd : List Rs → Rs → Prop := fun as r => ∃ (os : List Sim) (n : Nat) (s : Sim), as = [.l (os.map eS), .d (eS [(n : Int)])] ∧ os[n]? = some s ∧ Sx s ∧ (∀ f ∈ fc s, f ∈ os) ∧ r = .d (eS (bd os s))
theorem sc_33 : FnScope ["order", "chain", "found", "place", "face"] ["order", "chain"] (defScope (top 33)) := ⟨rfl, rfl, rfl, by decide +kernel, rfl, by decide +kernel, by decide +kernel⟩
theorem ok_boundary (M : Mg mg) (S : Stands K mg "boundary" 33) (DA : Df0 P w K mg base "added" 1 (spU rAdded)) (DF : Df0 P w K mg base "faces_of" 1 (spN rFac)) : Df0 P w K mg base "boundary" 2 (spU rBd) := by
  refine mk_pu S sc_33 (fun as r h => by obtain ⟨i, n, s, rfl, _⟩ := h; rfl) (fun _ _ _ _ _ _ us hl => match us, hl with | [_, _], _ => rfl) fun f cdv A outer s H E hr as r h => ?_
  obtain ⟨os, n, t, rfl, hn, ht, hf, rfl⟩ := h
  have hu : (A.deeper (envOfC "boundary" (defScope (top 33)) s.heap.objs.size f cdv)).units + 65 < cLine := by have := hr.un; omega
  intro σ H S D q
  refine wss_cons (ws_set 2 sc_33.nd S (pu_tup (ds := []) pua_nil) fun v H1 s1 a1 => ?_)
  have S1 := (S.mono s1).set 2 a1
  refine wss_cons (ws_for (ds := [.int n]) (Iq := fun _ => False) (g := gName 3) (srcS_tup S1 (pu_var 1)) (pg_name sc_33.nd rfl (Or.inl rfl)) fun p H2 s2 _ => ?_)
  refine ⟨fun i σ' H' => Same H2 H' ∧ Sl H' σ' [some (.l (os.map eS)), some (.d (eS [(n : Int)])), some (.d (eS (if i = 0 then [] else bd os t))), none, none], ⟨Same.refl _, S1.mono s2⟩, fun i σ' H' _ h => .of h.1, fun i d σ' H' x H3 hd hP s3 im => ?_, fun σ' H' hP => ?_⟩
  · match i with
    | i + 1 => simp at hd
    | 0 =>
      simp at hd
      subst hd
      have S3 := (hP.2.mono s3).set 3 (r := .d (.int n)) im
      refine wss_one (ws_set 2 sc_33.nd S3 (pu_call DA.df hr (pua_cons (pu_var 2) (pua_cons (pu_tuple M (pun_sortedI M (((lcd1a ["order", "chain", "found", "place", "face"] (defScope (top 33)) 4 (xs := fc t) (enc := eS) (fun f => .int (ix os f))
        (src_list (pun_call DF.df hr (pua_cons (pu_ixL (pu_var 0) (pu_var 3) (atI_nat' (n := n) (by rw [List.getElem?_map, hn]; rfl) rfl)) pua_nil) ⟨t, ht, rfl, rfl⟩).pu) sc_33.nd (by have := fc_len (s := t); omega) (fun f hf' _ _ _ _ _ => pu_indexS hu (pu_var 0) (pu_var 4) (hf f hf')))).to (ds' := ((fc t).map (ix os)).map .int) (by simp)).pun.pu (insort_ints _ _ rfl)).pu) pua_nil)) ⟨[], bd os t, rfl, by simp, by have := bd_len (os := os) (s := t); omega, rfl⟩) fun v H4 s4 a4 => ?_)
      refine ⟨hP.1.trans (s3.trans s4), ?_⟩
      rw [show addI [] (bd os t) = bd os t from addI_nil _ (sorted_sort _)] at a4
      exact (((S3.mono s4).set 2 a4).del 3)
  · exact wss_one (ws_ret hP.2 (pu_var 2) fun v H4 s4 a4 => q v H4 (s1.trans (s2.trans (hP.1.trans s4))) a4)
end
end K47
/-! P5: bar_key, sorted_bars, bars_by -/
namespace K47
open PySem PySem.Spec PyProof.Rows L2
open PySem.W (EachIs AllAlike Sortable dataLe dataLt alike alikeAll keyToks keyToksAll dataLt_tuple dataLt_ints)
/-- a bar: dimension, birth, death -/
abbrev Bar := Int × Int × Option Int
def eB (b : Bar) : PyData := .tuple [.int b.1, .int b.2.1, oD b.2.2]
def kB (b : Bar) : PyData := .tuple [.int b.1, .int b.2.1, .bool b.2.2.isNone, .int (b.2.2.getD 0)]
def leB : Bar → Bar → Bool := dataLe false kB
/-- a pair: birth, death -/
abbrev Pr := Nat × Option Nat
def oI (o : Option Nat) : Option Int := o.map fun n => (n : Int)
def eP (p : Pr) : PyData := .tuple [.int (p.1 : Nat), oD (oI p.2)]
def itm (its : List Itm) (n : Nat) : Itm := its.getD n ([], 0)
def endOf (its : List Itm) (p : Pr) : Option Int := p.2.map fun d => (itm its d).2
def keepB (its : List Itm) (p : Pr) : Bool := match endOf its p with
  | none => true
  | some e => decide ((itm its p.1).2 < e)
def mkB (its : List Itm) (p : Pr) : Bar := (((itm its p.1).1.length : Int) - 1, (itm its p.1).2, endOf its p)
def barsOf (its : List Itm) (ps : List Pr) : List Bar := (ps.filter (keepB its)).map (mkB its)
theorem isNon_oD (o : Option Int) : isNon (oD o) = o.isNone := by cases o <;> rfl
theorem gd_kB (p : Bar) : Gd 2 (kB p) := gdd_tup fun d hd => by
  simp only [List.mem_cons, List.not_mem_nil, or_false] at hd
  rcases hd with rfl | rfl | rfl | rfl
  · exact gd_int _
  · exact gd_int _
  · exact gd_bool _
  · exact gd_int _
theorem kB_alike (l : List Bar) : AllAlike (l.map kB) := fun d hd d' hd' => by
  obtain ⟨p, _, rfl⟩ := List.mem_map.mp hd
  obtain ⟨q, _, rfl⟩ := List.mem_map.mp hd'
  simp [kB, alike, alikeAll]
theorem kB_sortable (l : List Bar) : Sortable (l.map kB) := .inl fun d hd => by
  obtain ⟨p, _, rfl⟩ := List.mem_map.mp hd
  exact ⟨_, _, rfl⟩
section
variable {P : Program} {w : World} {K : PySem.W.Frag} {mg : Str → Option Value} {base : Heap}
def rBKey : List Rs → Rs → Prop := fun as r => ∃ p : Bar, as = [.d (eB p)] ∧ r = .d (kB p)
theorem sc_28 : FnScope ["bar", "dimension", "birth", "death"] ["bar"] (defScope (top 28)) := ⟨rfl, rfl, rfl, by decide +kernel, rfl, by decide +kernel, by decide +kernel⟩
theorem ok_bar_key (M : Mg mg) (S : Stands K mg "bar_key" 28) : Df0 P w K mg base "bar_key" 1 (spU rBKey) := by
  refine mk_pu S sc_28 (fun as r h => by obtain ⟨i, rfl, _⟩ := h; rfl) (fun _ _ _ _ _ _ us hl => match us, hl with | [_], _ => rfl) fun f cdv A outer s H E hr as r h => ?_
  obtain ⟨t, rfl, rfl⟩ := h
  refine go_asg (vs := [1, 2, 3]) (pu_var 0) (pg_3 1 2 3 sc_28.nd) gd_3 ?_
  refine go_ret ((pu_tup (ds := [.int t.1, .int t.2.1, .bool t.2.2.isNone, .int (t.2.2.getD 0)]) (pua_cons (pu_var 1) (pua_cons (pu_var 2) (pua_cons ((pu_cmp op_isN rv_isN (by rfl) (pu_var 3) pu_non).to (by rw [isNon_oD])) (pua_cons
    (pu_if (k := t.2.2.isNone) ((put_cmp op_isN rv_isN (by rfl) (pu_var 3) pu_non).to (isNon_oD _)) (fun h => ?_) (fun h => ?_)) pua_nil)))) (by simp)).to rfl)
  · cases e : t.2.2 with
    | none => exact pu_int
    | some x => rw [e] at h; cases h
  · cases e : t.2.2 with
    | none => rw [e] at h; cases h
    | some x => exact pu_var 3
def rSB : List Rs → List PyData → Prop := fun as r => ∃ l : List Bar, as = [.l (l.map eB)] ∧ r = (l.mergeSort leB).map eB
theorem sc_29 : FnScope ["bars"] ["bars"] (defScope (top 29)) := ⟨rfl, rfl, rfl, by decide +kernel, rfl, by decide +kernel, by decide +kernel⟩
theorem ok_sorted_bars (M : Mg mg) (S : Stands K mg "sorted_bars" 29) (D : Df0 P w K mg base "bar_key" 1 (spU rBKey)) : Df0 P w K mg base "sorted_bars" 3 (spN rSB) := by
  refine mk_pun S sc_29 (fun as r h => by obtain ⟨i, rfl, _⟩ := h; rfl) (fun _ _ _ _ _ _ us hl => match us, hl with | [_], _ => rfl) fun f cdv A outer s H E hr as r h => ?_
  obtain ⟨l, rfl, rfl⟩ := h
  exact gon_ret (pun_sortedK (enc := eB) (key := kB) (bs := l) M D.df hr (pu_var 0) (fun p _ => ⟨p, rfl, rfl⟩) (kB_alike l) (kB_sortable l) (fun p _ => by have := (gd_kB p).2; omega))
/-! ### bars_by -/
def rBars : List Rs → List PyData → Prop := fun as r => ∃ (its : List Itm) (ps : List Pr), as = [.l (its.map eTI), .l (ps.map eP)] ∧ (∀ p ∈ ps, p.1 < its.length ∧ ∀ d, p.2 = some d → d < its.length) ∧ ps.length ≤ 1000 ∧ r = ((barsOf its ps).mergeSort leB).map eB
theorem sc_35 : FnScope ["items", "pairs", "found", "birth", "death", "simplex", "height", "end"] ["items", "pairs"] (defScope (top 35)) := ⟨rfl, rfl, rfl, by decide +kernel, rfl, by decide +kernel, by decide +kernel⟩
theorem itm_at {its : List Itm} {n : Nat} (h : n < its.length) : (its.map eTI)[n]? = some (eTI (itm its n)) := by
  rw [List.getElem?_map, List.getElem?_eq_getElem h]
  unfold itm
  rw [List.getD_eq_getElem?_getD, List.getElem?_eq_getElem h]; rfl
theorem ok_bars_by (M : Mg mg) (S : Stands K mg "bars_by" 35) (D : Df0 P w K mg base "sorted_bars" 3 (spN rSB)) : Df0 P w K mg base "bars_by" 4 (spN rBars) := by
  refine mk_pun S sc_35 (fun as r h => by obtain ⟨i, n, rfl, _⟩ := h; rfl) (fun _ _ _ _ _ _ us hl => match us, hl with | [_, _], _ => rfl) fun f cdv A outer s H E hr as r h => ?_
  obtain ⟨its, ps, rfl, hp, hz, rfl⟩ := h
  intro σ H S0 D' q'
  obtain ⟨va, hva, a, rfl, la⟩ := S0.at_ 1 (.l (ps.map eP)) rfl
  refine wss_cons (ws_setN 2 sc_35.nd S0 (pun_lst (ds := []) pua_nil) fun q H1 hq s1 l1 => ?_)
  have haq : a ≠ q := fun e => by subst e; obtain ⟨vs, h1, _⟩ := la; rw [hq] at h1; cases h1
  have S0' := (S0.set0 (v := .ref q) 2)
  have hlen : 8 = σ.length := S0.len
  refine wss_cons (ws_acc (ds := ps.map eP) (Γ0 := [some (.l (its.map eTI)), some (.l (ps.map eP)), none, none, none, none, none, none]) (q := q) (g := g2 K 3 4) 2 (fun i => (barsOf its (ps.take i)).map eB) [3, 4, 5, 6, 7]
    (srcS_var 1 (by rw [List.getElem?_set_ne (by decide)]; exact hva) (la.mono s1)) (fun b hb _ => by rw [hb]; exact haq) (pg_2 3 4 sc_35.nd) s1 hq S0' (List.getElem?_set_self (by omega)) l1
    (by intro i hi r; simp at hi; rcases hi with rfl | rfl | rfl | rfl | rfl <;> simp) (by decide) ?_ ?_)
  · intro i d hd σ' H' x sH xH SH hw hf hl im N hN
    rw [List.getElem?_map] at hd
    cases hpi : ps[i]? with
    | none => rw [hpi] at hd; cases hd
    | some pr =>
      rw [hpi] at hd
      cases hd
      have hm : pr ∈ ps := List.mem_of_getElem? hpi
      obtain ⟨hb1, hb2⟩ := hp pr hm
      have hti : ps.take (i + 1) = ps.take i ++ [pr] := by
        obtain ⟨h1, h2⟩ := List.getElem?_eq_some_iff.mp hpi
        rw [List.take_succ_eq_append_getElem h1, h2]
      refine gd_2 (vs := [3, 4]) (by simp) (by simp) x σ' H' im (SH.mono sH) _ fun σ1 S1 w1 => ?_
      refine wss_cons (ws_asg (vs := [5, 6]) (d := eTI (itm its pr.1)) S1 (pu_ixL (pu_var 0) (pu_var 3) (atI_nat' (itm_at hb1) rfl)) (pg_2 5 6 sc_35.nd) (gd_2 (by simp) (by simp)) fun σ2 H2 s2 S2 w2 => ?_)
      refine wss_cons (ws_set 7 sc_35.nd S2 (r := .d (oD (endOf its pr))) (pu_if (k := pr.2.isNone) ((put_cmp op_isN rv_isN (by rfl) (pu_var 4) pu_non).to (by rw [isNon_oD]; cases pr.2 <;> rfl)) (fun h => ?_) fun h => ?_) fun v H3 s3 a3 => ?_)
      · cases e : pr.2 with
        | none => exact pu_non.to (by unfold endOf; rw [e]; rfl)
        | some d => rw [e] at h; cases h
      · cases e : pr.2 with
        | none => rw [e] at h; cases h
        | some d =>
          refine (pu_ixT (pu_ixL (pu_var 0) (pu_var 4) (atI_nat' (itm_at (hb2 d e)) rfl)) pu_int (atI_nat' (n := 1) (x := .int (itm its d).2) rfl rfl)).to ?_
          unfold endOf; rw [e]; rfl
      have S3 := (S2.mono s3).set 7 a3
      have e0 : wipe (σ2.set 7 (some v)) [3, 4, 5, 6, 7] = wipe σ' [3, 4, 5, 6, 7] := by
        rw [wipe_set (by simp), wipe_sub w2 (by simp), wipe_sub w1 (by simp)]
      have hf3 : (σ2.set 7 (some v))[2]? = some (some (.ref q)) := by rw [wipe_get e0 (by decide)]; exact hf
      have x3 : SameX q H' H3 := (SameX.of s2).trans (.of s3)
      refine wss_one (ws_if (b := keepB its pr) S3 (PuT.to (PuB.t (pub_or (put_cmp op_isN rv_isN (by rfl) (pu_var 7) pu_non) (d := keepB its pr) fun h => pub_or1 ?_)) ?_) (fun hk H4 s4 => ?_) fun hk H4 s4 => ?_)
      · rw [isNon_oD] at h
        cases e : endOf its pr with
        | none => rw [e] at h; cases h
        | some z => exact (put_cmp op_gt rv_gt (by rfl) (pu_var 7) (pu_var 6)).to (by unfold keepB; rw [e])
      · rw [isNon_oD]
        unfold keepB
        cases endOf its pr <;> simp
      · refine wss_one (ws_app 2 (d := eB (mkB its pr)) (S3.mono s4) hf3 ((hl.mono (s2.trans (s3.trans s4)))) ((pu_tup (ds := [.int (((itm its pr.1).1.length : Int) - 1), .int (itm its pr.1).2, oD (endOf its pr)]) (pua_cons (pu_sub ((pu_lenT M (pu_var 5)).to (by simp)) pu_int) (pua_cons (pu_var 6) (pua_cons (pu_var 7) pua_nil))) (by simp)).to rfl) ?_ fun H5 x5 l5 => hN _ _ (x3.trans ((SameX.of s4).trans x5)) ?_ e0)
        · have h1 := List.length_filter_le (keepB its) (ps.take i)
          have h2 := List.length_take_le i ps
          have h3 : (ps.take i).length ≤ ps.length := by rw [List.length_take]; omega
          simp only [barsOf, List.length_map]; omega
        · rw [hti]
          unfold barsOf at l5 ⊢
          rw [List.filter_append, List.filter_cons_of_pos hk]
          simpa using l5
      · refine wss_nil (hN _ _ (x3.trans (.of s4)) ?_ e0)
        rw [hti]
        unfold barsOf
        have hk' : ¬ keepB its pr = true := by rw [hk]; simp
        rw [List.filter_append, List.filter_cons_of_neg hk']
        simpa [barsOf] using hl.mono (s2.trans (s3.trans s4))
  · intro σ' H' xH hl hw
    have sH : Same H H' := xH.base s1 hq
    have SH : Sl H σ' _ := (S0'.wiped hw (by intro i hi r; simp at hi; rcases hi with rfl | rfl | rfl | rfl | rfl <;> simp))
    have hf : σ'[2]? = some (some (.ref q)) := by rw [wipe_get hw (by decide)]; exact List.getElem?_set_self (by omega)
    rw [List.length_map, List.take_length] at hl
    have SH2 := ((SH.mono sH).add 2 (r := .l ((barsOf its ps).map eB)) hf ⟨q, rfl, hl⟩)
    exact wss_one (ws_retN SH2 (pun_call D.df hr (pua_cons (pu_var 2) pua_nil) ⟨_, rfl, rfl⟩) fun p H2 hn s2 l2 => q' p H2 (sH.free hn) (sH.trans s2) l2)
end
end K47
/-! P6: check_item, check_shape -/
namespace K47
open PySem PySem.Spec PyProof.Rows L2
/-- a right shape -/
structure VS (l : List Itm) : Prop where
  len : l.length ≤ 60
  sx : ∀ p ∈ l, Sx p.1
  ht : ∀ p ∈ l, -1000 ≤ p.2 ∧ p.2 ≤ 1000
  nd : (l.map (·.1)).Nodup
  fc : ∀ p ∈ l, ∀ f ∈ fc p.1, ∃ h, (f, h) ∈ l ∧ h ≤ p.2
theorem lk_mem {l : List Itm} (nd : (l.map (·.1)).Nodup) {s : Sim} {h : Int} (m : (s, h) ∈ l) : lkT l s = some h := by
  induction l with
  | nil => simp at m
  | cons p r ih =>
    rw [List.map_cons, List.nodup_cons] at nd
    unfold lkT
    rw [List.find?_cons]
    by_cases e : p.1 = s
    · simp only [e, decide_true]
      rcases List.mem_cons.mp m with z | z
      · rw [← z]; rfl
      · exact absurd (List.mem_map.mpr ⟨(s, h), z, rfl⟩) (by rw [← e]; exact nd.1)
    · simp only [e, decide_false]
      rcases List.mem_cons.mp m with z | z
      · rw [← z] at e; simp at e
      · exact ih nd.2 z
theorem lk_some {l : List Itm} {s : Sim} {h : Int} (e : lkT l s = some h) : (s, h) ∈ l := by
  unfold lkT at e
  cases q : l.find? (fun p => decide (p.1 = s)) with
  | none => rw [q] at e; simp at e
  | some p =>
    rw [q] at e
    have h1 := List.find?_some q
    have h2 := List.mem_of_find?_eq_some q
    simp at h1 e
    rw [← h1, ← e]; exact h2
theorem lk_none {l : List Itm} {s : Sim} : lkT l s = none ↔ s ∉ l.map (·.1) := by
  unfold lkT
  rw [Option.map_eq_none_iff, List.find?_eq_none]
  constructor
  · intro h m
    obtain ⟨p, hp, rfl⟩ := List.mem_map.mp m
    have := h p hp
    simp at this
  · intro h p hp e
    simp at e
    exact h (List.mem_map.mpr ⟨p, hp, e⟩)
theorem lk_isSome {l : List Itm} {s : Sim} : (lkT l s).isSome = decide (s ∈ l.map (·.1)) := by
  cases e : lkT l s with
  | none => simp [lk_none.mp e]
  | some h => have := List.mem_map_of_mem (f := (·.1)) (lk_some e); simp at this; simp [this]
section
variable {P : Program} {w : World} {K : PySem.W.Frag} {mg : Str → Option Value} {base : Heap}
def rCI : List Rs → Prop := fun as => ∃ (l : List Itm) (i : Nat), VS l ∧ as = [.l (l.map eTI), .d (.int (i : Nat))] ∧ i < l.length
theorem sc_23 : FnScope ["shape", "at", "item", "other"] ["shape", "at"] (defScope (top 23)) := ⟨rfl, rfl, rfl, by decide +kernel, rfl, by decide +kernel, by decide +kernel⟩
theorem ok_check_item (M : Mg mg) (S : Stands K mg "check_item" 23) (DS : Df0 P w K mg base "is_simplex" 2 (spU rSimp)) (DH : Df0 P w K mg base "is_height" 2 (spU rHgt)) : Df0 P w K mg base "check_item" 3 (spU fun as r => rCI as ∧ r = .d .none) := by
  refine mk_pu0 S sc_23 (fun as h => by obtain ⟨l, i, _, rfl, _⟩ := h; rfl) (fun _ _ _ _ _ _ us hl => match us, hl with | [_, _], _ => rfl) fun f cdv A outer s H E hr as h => ?_
  obtain ⟨l, i, V, rfl, hi⟩ := h
  have hu : (A.deeper (envOfC "check_item" (defScope (top 23)) s.heap.objs.size f cdv)).units + 65 < cLine := by have := hr.un; omega
  intro σ H0 S0 D q
  have hm : itm l i ∈ l := by
    unfold itm
    rw [List.getD_eq_getElem?_getD, List.getElem?_eq_getElem hi]
    exact List.getElem_mem hi
  obtain ⟨h1, h2⟩ := V.ht _ hm
  refine wss_cons (ws_set 2 sc_23.nd S0 (pu_ixL (pu_var 0) (pu_var 1) (atI_nat' (itm_at hi) rfl)) fun v H1 s1 a1 => ?_)
  have S1 := (S0.mono s1).set 2 a1
  refine wss_cons (ws_ifN S1 ((PuB.t (pub_or (put_not (pu_val (isi_tuple M (pu_var 2)))) fun _ => pub_or (put_cmp op_ne rv_neI (by rfl) (pu_lenT M (pu_var 2)) pu_int) fun _ => pub_or1 (put_not (pu_val (pu_call DS.df hr (pua_cons (pu_ixT (pu_var 2) pu_int (atI_nat' (n := 0) rfl rfl)) pua_nil) ⟨(itm l i).1, V.sx _ hm, rfl, rfl⟩))))).to (by simp)) fun H2 s2 => ?_)
  have S2 := S1.mono s2
  refine wss_cons (ws_ifN S2 ((put_not (pu_val (pu_call DH.df hr (pua_cons (pu_ixT (pu_var 2) pu_int (atI_nat' (n := 1) rfl rfl)) pua_nil) ⟨(itm l i).2, rfl, rfl⟩))).to (by simp [h1, h2])) fun H3 s3 => ?_)
  have S3 := S2.mono s3
  refine wss_one (ws_ifN S3 ((put_cmp (op_inD hu) (rv_inD (sh_S _) (sh_Ss ((l.take i).map (·.1)))) (by rfl) (pu_ixT (pu_var 2) pu_int (atI_nat' (n := 0) (x := eS (itm l i).1) rfl rfl)) (((lcd1a ["shape", "at", "item", "other"] (defScope (top 23)) 3 (xs := l.take i) (enc := eTI) (fun p => eS p.1)
    (src_list ((pun_slL (pu_var 0) puo_none (puo_some (pu_var 1))).to (by rw [cutD_take (n := i) rfl (by simp; omega), List.map_take])).pu) sc_23.nd (by have := V.len; simp; omega) (fun p _ _ _ _ _ _ => pu_ixT (pu_var 3) pu_int (atI_nat' (n := 0) rfl rfl)))).to (by simp only [List.map_map]; rfl)).pun.pu).to ?_) fun H4 s4 => q _ H4 (s1.trans (s2.trans (s3.trans s4))))
  rw [any_S, decide_eq_false_iff_not]
  intro hm2
  have nd := V.nd
  have e : l.map (·.1) = (l.take i).map (·.1) ++ ((l.drop i).map (·.1)) := by rw [← List.map_append, List.take_append_drop]
  rw [e, List.nodup_append] at nd
  refine nd.2.2 _ hm2 (itm l i).1 (List.mem_map.mpr ⟨_, ?_, rfl⟩) rfl
  have : l.drop i = l[i] :: l.drop (i + 1) := List.drop_eq_getElem_cons hi
  rw [this]
  unfold itm
  rw [List.getD_eq_getElem?_getD, List.getElem?_eq_getElem hi]
  exact List.mem_cons_self
/-! ### check_shape -/
def rCS : List Rs → Prop := fun as => ∃ l : List Itm, VS l ∧ as = [.l (l.map eTI)]
theorem sc_24 : FnScope ["shape", "at", "heights", "simplex", "height", "face"] ["shape"] (defScope (top 24)) := ⟨rfl, rfl, rfl, by decide +kernel, rfl, by decide +kernel, by decide +kernel⟩
theorem bare_of {Γ : Gm} {W : List Nat} (h : W.all (fun i => match Γ[i]? with | some (some _) => false | _ => true) = true := by rfl) : Bare Γ W := by
  intro i hi r e
  have := List.all_eq_true.mp h i hi
  rw [e] at this; cases this
theorem ok_check_shape (M : Mg mg) (S : Stands K mg "check_shape" 24) (DC : Df0 P w K mg base "check_item" 3 (spU fun as r => rCI as ∧ r = .d .none)) (DF : Df0 P w K mg base "faces_of" 1 (spN rFac)) : Df0 P w K mg base "check_shape" 4 (spU fun as r => rCS as ∧ r = .d .none) := by
  refine mk_pu0 S sc_24 (fun as h => by obtain ⟨l, _, rfl, _⟩ := h; rfl) (fun _ _ _ _ _ _ us hl => match us, hl with | [_], _ => rfl) fun f cdv A outer s H E hr as h => ?_
  obtain ⟨l, V, rfl⟩ := h
  have hu : (A.deeper (envOfC "check_shape" (defScope (top 24)) s.heap.objs.size f cdv)).units + 100 < cLine := by have := hr.un; omega
  have hlen := V.len
  have hu1 : (A.deeper (envOfC "check_shape" (defScope (top 24)) s.heap.objs.size f cdv)).units + 1 < cLine := by omega
  intro σ H0 S0 D q
  refine wss_cons (ws_ifN S0 ((put_cmp op_gt rv_gt (by rfl) (pu_lenL M (pu_var 0)) (pu_gint M.sm)).to (by simp; omega)) fun H1 s1 => ?_)
  have S1 := S0.mono s1
  refine wss_cons (ws_pure (Γ0 := [some (.l (l.map eTI)), none, none, none, none, none]) (g := gName 1) (Iq := fun _ => False) [1] (srcS_rng1 M S1 (pu_lenL M (pu_var 0)) (by simp; omega)) (pg_name sc_24.nd rfl (Or.inl rfl)) S1 bare_of (fun i d hd σ' H' x sH SH hw im N hN => ?_) fun σ2 H2 s2 hw2 => ?_)
  · have hi : i < l.length := by
      have := (List.getElem?_eq_some_iff.mp hd).1
      rw [rngD_len] at this; simpa using this
    rw [rngD_at (by simpa using hi)] at hd
    cases hd
    have SH' := SH.set 1 (r := .d _) im
    exact wss_one (ws_exprP SH' (pu_call DC.df hr (pua_cons (pu_var 0) (pua_cons (pu_var 1) pua_nil)) ⟨⟨l, i, V, by simp, hi⟩, rfl⟩) fun H3 s3 => hN _ _ s3 (wipe_set (by simp)))
  · have S2 := (S1.mono s2).wiped (W := [1]) hw2 bare_of
    refine wss_cons (ws_set 2 sc_24.nd S2 (pu_dictT (kvs := l) M rfl hu (pu_var 0) V.nd) fun v H3 s3 a3 => ?_)
    have S3 := (S2.mono s3).set 2 a3
    refine wss_one (ws_pure (Γ0 := [some (.l (l.map eTI)), none, some (.t l), none, none, none]) (g := gTup K 2 (gCons (gName 1) (gCons (g2 K 3 4) gNil))) (Iq := fun _ => True) [1, 3, 4, 5] (srcS_enumW (ds := l.map eTI) M fun Q hQ => (pu_var (r := .l (l.map eTI)) 0) _ _ S3 _ fun v H' s a => by
      obtain ⟨p, rfl, lp⟩ := a
      exact hQ p H' s lp trivial) (pg_tup rfl (pgs_cons (pg_name sc_24.nd rfl (Or.inl rfl)) (pgs_cons (pg_2 3 4 sc_24.nd) pgs_nil))) S3 bare_of (fun i d hd σ' H' x sH SH hw im N hN => ?_) fun σ4 H4 s4 hw4 => q _ _ (s1.trans (s2.trans (s3.trans s4))))
    have hi : i < l.length := by
      have := (List.getElem?_eq_some_iff.mp hd).1
      simpa using this
    have hd' : d = .tuple [.int (i : Nat), eTI l[i]] := by
      simp [List.getElem?_eq_getElem hi] at hd
      exact hd.symm
    subst hd'
    have hm : l[i] ∈ l := List.getElem_mem hi
    refine gd_tup (vs := [1, 3, 4]) (Γ := [some (.l (l.map eTI)), none, some (.t l), none, none, none]) (gds_cons (gd_name (by simp)) (gds_cons (gd_2 (a := eS l[i].1) (b := .int l[i].2) (by simp) (by simp)) gds_nil)) rfl x σ' H' im SH _ fun σ1 S1' w1 => ?_
    refine wss_one (ws_pure (ds := (fc l[i].1).map eS) (Γ0 := [some (.l (l.map eTI)), some (.d (.int (i : Nat))), some (.t l), some (.d (eS l[i].1)), some (.d (.int l[i].2)), none]) (g := gName 5) [5] (srcS_new S1' (pun_call DF.df (hr.mono (by decide)) (pua_cons (pu_var 3) pua_nil) ⟨_, V.sx _ hm, rfl, rfl⟩)) (pg_name sc_24.nd rfl (Or.inl rfl)) S1' bare_of (fun j d hd σ5 H5 x sH5 SH5 hw5 im5 N5 hN5 => ?_) fun σ6 H6 s6 hw6 => hN _ _ s6 ((wipe_sub hw6 (by simp)).trans (wipe_sub w1 (by simp))))
    rw [List.getElem?_map] at hd
    cases hj : (fc l[i].1)[j]? with
    | none => rw [hj] at hd; cases hd
    | some fa =>
      rw [hj] at hd
      cases hd
      obtain ⟨h, hh, hle⟩ := V.fc _ hm fa (List.mem_of_getElem? hj)
      have hlk := lk_mem V.nd hh
      have SH6 := SH5.set 5 (r := .d _) im5
      refine wss_cons (ws_ifN SH6 ((put_ninT hu1 (pu_var 5) (pu_var 2)).to (by rw [hlk]; rfl)) fun H7 s7 => ?_)
      exact wss_one (ws_ifN (SH6.mono s7) ((put_cmp op_gt rv_gt (by rfl) (pu_getT hu1 (pu_var 2) (pu_var 5) hlk) (pu_var 4)).to (by simp; omega)) fun H8 s8 => hN5 _ _ (s7.trans s8) (wipe_set (by simp)))
end
end K47
/-! P7: edits: is_single, is_several, singles, fits, can_be_done, done -/
namespace K47
open PySem PySem.Spec PyProof.Rows L2
/-- a single edit -/
inductive Ed where
  | ht (s : Sim) (h : Int)
  | ad (s : Sim) (h : Int)
  | tk (s : Sim)
def Ed.sim : Ed → Sim
  | .ht s _ => s
  | .ad s _ => s
  | .tk s => s
def eE : Ed → PyData
  | .ht s h => .tuple [.str "height", eS s, .int h]
  | .ad s h => .tuple [.str "add", eS s, .int h]
  | .tk s => .tuple [.str "take", eS s]
/-- an edit -/
inductive Fe where
  | one (e : Ed)
  | all (es : List Ed)
def Fe.sgl : Fe → List Ed
  | .one e => [e]
  | .all es => es
def eF : Fe → PyData
  | .one e => eE e
  | .all es => .tuple [.str "all", .tuple (es.map eE)]
def Fe.sev : Fe → Bool
  | .one _ => false
  | .all _ => true
/-- s at height h stands between faces and cofaces -/
def Btw (l : List Itm) (s : Sim) (h : Int) : Prop := Sx s ∧ -1000 ≤ h ∧ h ≤ 1000 ∧ (∀ f ∈ fc s, ∃ h', (f, h') ∈ l ∧ h' ≤ h) ∧ ∀ p ∈ l, s ∈ fc p.1 → h ≤ p.2
def Can (l : List Itm) : Ed → Prop
  | .ht s h => s ∈ l.map (·.1) ∧ Btw l s h
  | .ad s h => s ∉ l.map (·.1) ∧ l.length < 60 ∧ Btw l s h
  | .tk s => s ∈ l.map (·.1) ∧ ∀ p ∈ l, s ∉ fc p.1
def Ed.add : Ed → List Itm
  | .ht s h => [(s, h)]
  | .ad s h => [(s, h)]
  | .tk _ => []
def wo (l : List Itm) (s : Sim) : List Itm := l.filter fun p => decide (p.1 ≠ s)
def app (l : List Itm) (e : Ed) : List Itm := gr (wo l e.sim ++ e.add)
/-- where the written dict stands -/
structure Lg (K : PySem.W.Frag) (w : World) (mg : Str → Option Value) : Prop where
  ex : ∃ (d : Addr) (es : Array DictEntry) (n : Nat), mg "LENGTHS" = some (.ref d) ∧ KDict K w d es n ∧ (∃ t, PySem.W.nsIn K d "height" = some (some (.int 3 t))) ∧ (∃ t, PySem.W.nsIn K d "add" = some (some (.int 3 t))) ∧ ∃ t, PySem.W.nsIn K d "take" = some (some (.int 2 t))
def lgth (x : Str) : Int := if x = "take" then 2 else 3
theorem lg_h : lgth "height" = 3 := by decide
theorem lg_a : lgth "add" = 3 := by decide
theorem lg_t : lgth "take" = 2 := by decide
theorem w_ht : decide (("height" : Str) = "take") = false := by decide
theorem w_at : decide (("add" : Str) = "take") = false := by decide
theorem w_tt : decide (("take" : Str) = "take") = true := by decide
theorem w_ha : decide (("height" : Str) = "add") = false := by decide
theorem w_aa : decide (("add" : Str) = "add") = true := by decide
theorem w_ta : decide (("take" : Str) = "add") = false := by decide
theorem w_hh : decide (("height" : Str) = "height") = true := by decide
theorem w_ah : decide (("add" : Str) = "height") = false := by decide
theorem w_th : decide (("take" : Str) = "height") = false := by decide
theorem w_ll : decide (("all" : Str) = "all") = true := by decide
theorem w_hl : decide (("height" : Str) = "all") = false := by decide
theorem w_al : decide (("add" : Str) = "all") = false := by decide
theorem w_tl : decide (("take" : Str) = "all") = false := by decide
theorem pu_lgth {X : Cx} {Γ : Gm} {e f : Expr} {p apos pos : Pos} {x : Str} {j : Int} (L : Lg X.K X.w X.mg) (hx : x = "height" ∨ x = "add" ∨ x = "take") (he : Pu X Γ e (.d (.str x))) (hf : Pu X Γ f (.d (.int j))) (hg : Gl X "LENGTHS" := by rfl) (m : M2 X (.Name "LENGTHS" p) "get" apos e f pos := by exact ⟨rfl, rfl, rfl, rfl⟩) :
    Pu X Γ (.Call (.Attribute (.Name "LENGTHS" p) "get" apos) [e, f] [] pos) (.d (.int (lgth x))) := fun σ H S Q q => by
  obtain ⟨d, es, n, hm, D, h1, h2, h3⟩ := L.ex
  refine we_of (pe_kdget2 (pe_glob (v := .ref d) hg hm rfl (by decide)) pe_we pe_we m) ⟨d, es, n, rfl, D, he σ H S _ fun y H1 s1 a1 => hf σ H1 (S.mono s1) _ fun z H2 s2 a2 => ?_⟩
  cases a1
  have key : ∃ t, PySem.W.nsIn X.K d x = some (some (.int (lgth x) t)) := by
    rcases hx with rfl | rfl | rfl
    · exact h1
    · exact h2
    · exact h3
  obtain ⟨t, ht⟩ := key
  exact ⟨x, some (.int (lgth x) t), .int (lgth x), rfl, ht, fun u _ => ⟨t, rfl⟩, q _ H2 (s1.trans s2) (.int _)⟩
section
variable {X : Cx} {Γ : Gm} {c a b e : Expr} {pos p : Pos} {ds : List PyData}
theorem pun_if {k : Bool} (hc : PuT X Γ c k) (ha : k = true → PuN X Γ a ds) (hb : k = false → PuN X Γ b ds) : PuN X Γ (.IfExp c a b pos) ds := fun σ H S Q q =>
  we_of (pe_ifExp pt_wt pe_we pe_we) (hc σ H S _ fun H' s => by
    cases k with
    | true => exact ha rfl σ H' (S.mono s) _ fun p H2 n s2 a2 => q p H2 (s.free n) (s.trans s2) a2
    | false => exact hb rfl σ H' (S.mono s) _ fun p H2 n s2 a2 => q p H2 (s.free n) (s.trans s2) a2)
end
section
variable {P : Program} {w : World} {K : PySem.W.Frag} {mg : Str → Option Value} {base : Heap}
/-- a right single edit by itself -/
def EdOk : Ed → Prop
  | .ht s h => Sx s ∧ -1000 ≤ h ∧ h ≤ 1000
  | .ad s h => Sx s ∧ -1000 ≤ h ∧ h ≤ 1000
  | .tk s => Sx s
def rSing : List Rs → Rs → Prop := fun as r => ∃ e, EdOk e ∧ as = [.d (eE e)] ∧ r = .d (.bool true)
theorem sc_39 : FnScope ["edit"] ["edit"] (defScope (top 39)) := ⟨rfl, rfl, rfl, by decide +kernel, rfl, by decide +kernel, by decide +kernel⟩
theorem ok_is_single (M : Mg mg) (L : Lg K w mg) (S : Stands K mg "is_single" 39) (DS : Df0 P w K mg base "is_simplex" 2 (spU rSimp)) (DH : Df0 P w K mg base "is_height" 2 (spU rHgt)) : Df0 P w K mg base "is_single" 3 (spU rSing) := by
  refine mk_pu S sc_39 (fun as r h => by obtain ⟨i, _, rfl, _⟩ := h; rfl) (fun _ _ _ _ _ _ us hl => match us, hl with | [_], _ => rfl) fun f cdv A outer s H E hr as r h => ?_
  obtain ⟨e, he, rfl, rfl⟩ := h
  cases e with
  | ht t h =>
    obtain ⟨h1, h2, h3⟩ := he
    refine go_if (b := false) ((PuB.t (pub_or (put_not (pu_val (isi_tuple M (pu_var 0)))) fun _ => pub_or (put_not (put_truT (pu_var 0))) fun _ => pub_or1 (put_not (pu_val (isi_str M (pu_ixT (pu_var 0) pu_int (atI_nat' (n := 0) rfl rfl))))))).to (by simp)) (fun h => nomatch h) fun _ => ?_
    refine go_if (b := false) ((PuB.t (pub_or (put_cmp op_ne rv_neI (by rfl) (pu_lenT M (pu_var 0)) (pu_lgth L (x := "height") (.inl rfl) (pu_ixT (pu_var 0) pu_int (atI_nat' (n := 0) rfl rfl)) pu_int)) fun _ => pub_or1 (put_not (pu_val (pu_call DS.df hr (pua_cons (pu_ixT (pu_var 0) pu_int (atI_nat' (n := 1) rfl rfl)) pua_nil) ⟨t, h1, rfl, rfl⟩))))).to (by simp [lg_h])) (fun h => nomatch h) fun _ => ?_
    exact go_ret ((pu_or (c := false) ((pu_cmp op_eq rv_eqS (by rfl) (pu_ixT (pu_var 0) pu_int (atI_nat' (n := 0) rfl rfl)) pu_str).to (by rw [w_ht])) fun _ => pu_one (pu_call DH.df hr (pua_cons (pu_ixT (pu_var 0) pu_int (atI_nat' (n := 2) rfl rfl)) pua_nil) ⟨h, rfl, rfl⟩)).to (by simp [h2, h3]))
  | ad t h =>
    obtain ⟨h1, h2, h3⟩ := he
    refine go_if (b := false) ((PuB.t (pub_or (put_not (pu_val (isi_tuple M (pu_var 0)))) fun _ => pub_or (put_not (put_truT (pu_var 0))) fun _ => pub_or1 (put_not (pu_val (isi_str M (pu_ixT (pu_var 0) pu_int (atI_nat' (n := 0) rfl rfl))))))).to (by simp)) (fun h => nomatch h) fun _ => ?_
    refine go_if (b := false) ((PuB.t (pub_or (put_cmp op_ne rv_neI (by rfl) (pu_lenT M (pu_var 0)) (pu_lgth L (x := "add") (.inr (.inl rfl)) (pu_ixT (pu_var 0) pu_int (atI_nat' (n := 0) rfl rfl)) pu_int)) fun _ => pub_or1 (put_not (pu_val (pu_call DS.df hr (pua_cons (pu_ixT (pu_var 0) pu_int (atI_nat' (n := 1) rfl rfl)) pua_nil) ⟨t, h1, rfl, rfl⟩))))).to (by simp [lg_a])) (fun h => nomatch h) fun _ => ?_
    exact go_ret ((pu_or (c := false) ((pu_cmp op_eq rv_eqS (by rfl) (pu_ixT (pu_var 0) pu_int (atI_nat' (n := 0) rfl rfl)) pu_str).to (by rw [w_at])) fun _ => pu_one (pu_call DH.df hr (pua_cons (pu_ixT (pu_var 0) pu_int (atI_nat' (n := 2) rfl rfl)) pua_nil) ⟨h, rfl, rfl⟩)).to (by simp [h2, h3]))
  | tk t =>
    have h1 : Sx t := he
    refine go_if (b := false) ((PuB.t (pub_or (put_not (pu_val (isi_tuple M (pu_var 0)))) fun _ => pub_or (put_not (put_truT (pu_var 0))) fun _ => pub_or1 (put_not (pu_val (isi_str M (pu_ixT (pu_var 0) pu_int (atI_nat' (n := 0) rfl rfl))))))).to (by simp)) (fun h => nomatch h) fun _ => ?_
    refine go_if (b := false) ((PuB.t (pub_or (put_cmp op_ne rv_neI (by rfl) (pu_lenT M (pu_var 0)) (pu_lgth L (x := "take") (.inr (.inr rfl)) (pu_ixT (pu_var 0) pu_int (atI_nat' (n := 0) rfl rfl)) pu_int)) fun _ => pub_or1 (put_not (pu_val (pu_call DS.df hr (pua_cons (pu_ixT (pu_var 0) pu_int (atI_nat' (n := 1) rfl rfl)) pua_nil) ⟨t, h1, rfl, rfl⟩))))).to (by simp [lg_t])) (fun h => nomatch h) fun _ => ?_
    exact go_ret ((pu_or (c := true) (d := true) ((pu_cmp op_eq rv_eqS (by rfl) (pu_ixT (pu_var 0) pu_int (atI_nat' (n := 0) rfl rfl)) pu_str).to (by rw [w_tt])) fun h => nomatch h).to (by simp))
end
end K47
/-! P8: is_several, singles, fits, can_be_done -/
namespace K47
open PySem PySem.Spec PyProof.Rows L2
section
variable {X : Cx} {Γ : Gm} {e elt tg : Expr} {pos p : Pos} {ifs : List Expr} {scope : Scope}
def rLenRT : List V → Hp → VK → Prop := fun xs H Q => ∃ (p : Addr) (kvs : List (List L2.Key × V)), xs = [.ref p] ∧ Rd H p (.dT kvs) ∧ Q (.int ((kvs.length : Nat) : Int)) H
theorem call_len_RdT {X : Cx} : CallR X (.builtin "len") rLenRT := by
  intro pins s σ H xs us Q I r h
  obtain ⟨p, kvs, rfl, hp, q⟩ := h
  obtain ⟨u, rfl, rx⟩ := vals1 r
  obtain rfl : u = .ref p := rx
  obtain ⟨z, hd, ys, rel, dd⟩ := dt_rd I.hok hp
  have hl : kvs.length = ys.length := Paired.length rel
  refine call_len_dictH hd dd (by rw [← hl]; rw [sizeLine_eq] at z; omega) ?_
  rw [← hl]
  exact ⟨.int ((kvs.length : Nat) : Int), H, I.tok _, ⟨_, rfl⟩, q⟩
theorem pu_lenDT {l : List Itm} (M : Mg X.mg) (ha : Pu X Γ e (.t l)) (hg : Gl X "len" := by rfl) (he : starEach [e] X.env = [(false, eval e X.env)] := by rfl) : Pu X Γ (.Call (.Name "len" p) [e] [] pos) (.d (.int l.length)) :=
  pu_cB call_len_RdT M.len boot_len (fun H xs ax Q q => by
    obtain ⟨v, rfl, a, rfl, hp⟩ := at1 ax
    refine ⟨a, _, rfl, hp, ?_⟩
    have e : (encT l).length = l.length := by simp [encT]
    rw [e]
    exact q _ H (Same.refl H) (.int _)) (pua_cons ha pua_nil he) hg (he := he)
/-- [.. for x in d if ..], d a dict's name, x a name -/
theorem pun_lcT1 {l : List Itm} {x y : Str} {xp np : Pos} (N : List Str) (sc : Scope) (i j : Nat) (pr : Itm → Bool) (f : Itm → PyData) (hnd : N.Nodup) (hG : Γ[i]? = some (some (.t l))) (hz : l.length ≤ 100000)
    (ht : ∀ z ∈ l, ∀ s H C cl fp, PuTs (Blk X scope s H C cl fp) (Γ.set j (some (.d (eS z.1)))) ifs (pr z)) (he : ∀ z ∈ l, pr z = true → ∀ s H C cl fp, Pu (Blk X scope s H C cl fp) (Γ.set j (some (.d (eS z.1)))) elt (.d (f z)))
    (hv : ∀ r, Γ[j]? ≠ some (some r) := by intro r h; cases h) (hblk : blkC N sc scope [(y, j)] = true := by decide +kernel) (hXN : X.N = N := by rfl) (hXs : X.env.scope = sc := by rfl) (hc : X.calm = true := by rfl)
    (hNj : X.N[j]? = some y := by rfl) (hlo : ∀ s H C cl fp, (Blk X scope s H C cl fp).env.scope.names.lookup y = some .local := by exact fun _ _ _ _ _ => rfl)
    (hNx : X.N[i]? = some x := by rfl) (hvis : Vis X.env.scope x := by first | exact Or.inl rfl | exact Or.inr (Or.inl rfl) | exact Or.inr (Or.inr rfl)) (hd : (x == ("__debug__" : Str)) = false := by decide) (hcd : (x == ("__classdict__" : Str)) = false := by decide)
    (hs : ∀ y, foldedSetIterable (.Name x np) X.env y = pure y := by intro _; rfl) : PuN X Γ (.ListComp elt [⟨.Name y xp, .Name x np, ifs, 0⟩] scope pos) ((l.filter pr).map f) :=
  pun_lcT (own := [(y, j)]) (g := gName j) i pr f (fun z => Γ.set j (some (.d (eS z.1)))) hc (by rw [hXN]; exact hnd) hG hz (by rw [hXN, hXs]; exact blkOk_by hblk) (by intro k hk; simp at hk; subst hk; exact hv)
    (fun s H C cl fp => pg_name (by show X.N.Nodup; rw [hXN]; exact hnd) hNj (Or.inl (hlo s H C cl fp)) (.inr (hlo s H C cl fp))) (fun z _ => gd_name (by simp)) ht he hNx hvis hd hcd hs
end
section
variable {P : Program} {w : World} {K : PySem.W.Frag} {mg : Str → Option Value} {base : Heap}
def rSev : List Rs → Rs → Prop := fun as r => ∃ e : Fe, (Fe.sgl e).length ≤ 20 ∧ as = [.d (eF e)] ∧ r = .d (.bool e.sev)
theorem sc_40 : FnScope ["edit"] ["edit"] (defScope (top 40)) := ⟨rfl, rfl, rfl, by decide +kernel, rfl, by decide +kernel, by decide +kernel⟩
theorem ok_is_several (M : Mg mg) (S : Stands K mg "is_several" 40) : Df0 P w K mg base "is_several" 1 (spU rSev) := by
  refine mk_pu S sc_40 (fun as r h => by obtain ⟨i, _, rfl, _⟩ := h; rfl) (fun _ _ _ _ _ _ us hl => match us, hl with | [_], _ => rfl) fun f cdv A outer s H E hr as r h => ?_
  obtain ⟨e, he, rfl, rfl⟩ := h
  match e, he with
  | .one (.ht t h), _ => exact go_if (b := true) ((PuB.t (pub_or (d := true) (put_not (pu_val (isi_tuple M (pu_var 0)))) fun _ => pub_or (c := true) (d := true) ((put_cmp op_ne rv_neI (by rfl) (pu_lenT M (pu_var 0)) pu_int).to (by simp)) fun h => nomatch h)).to (by simp)) (fun _ => go_ret pu_bl) (fun h => nomatch h)
  | .one (.ad t h), _ => exact go_if (b := true) ((PuB.t (pub_or (d := true) (put_not (pu_val (isi_tuple M (pu_var 0)))) fun _ => pub_or (c := true) (d := true) ((put_cmp op_ne rv_neI (by rfl) (pu_lenT M (pu_var 0)) pu_int).to (by simp)) fun h => nomatch h)).to (by simp)) (fun _ => go_ret pu_bl) (fun h => nomatch h)
  | .one (.tk t), _ => exact go_if (b := true) ((PuB.t (pub_or (put_not (pu_val (isi_tuple M (pu_var 0)))) fun _ => pub_or (put_cmp op_ne rv_neI (by rfl) (pu_lenT M (pu_var 0)) pu_int) fun _ => pub_or (put_not (pu_val (isi_str M (pu_ixT (pu_var 0) pu_int (atI_nat' (n := 0) rfl rfl))))) fun _ => pub_or1 (put_cmp op_ne rv_neS (by rfl) (pu_ixT (pu_var 0) pu_int (atI_nat' (n := 0) rfl rfl)) pu_str))).to (by rw [w_tl]; simp)) (fun _ => go_ret pu_bl) (fun h => nomatch h)
  | .all es, he =>
    have he : es.length ≤ 20 := he
    refine go_if (b := false) ((PuB.t (pub_or (put_not (pu_val (isi_tuple M (pu_var 0)))) fun _ => pub_or (put_cmp op_ne rv_neI (by rfl) (pu_lenT M (pu_var 0)) pu_int) fun _ => pub_or (put_not (pu_val (isi_str M (pu_ixT (pu_var 0) pu_int (atI_nat' (n := 0) rfl rfl))))) fun _ => pub_or1 (put_cmp op_ne rv_neS (by rfl) (pu_ixT (pu_var 0) pu_int (atI_nat' (n := 0) rfl rfl)) pu_str))).to (by rw [w_ll]; simp)) (fun h => nomatch h) (fun _ => ?_)
    exact go_ret ((pu_and (isi_tuple M (pu_ixT (pu_var 0) pu_int (atI_nat' (n := 1) rfl rfl))) fun _ => pu_one (pu_cmp op_le rv_le (by rfl) (pu_lenT M (pu_ixT (pu_var 0) pu_int (atI_nat' (n := 1) rfl rfl))) (pu_gint M.em))).to (by simp [Fe.sev]; omega))
def rSgl : List Rs → List PyData → Prop := fun as r => ∃ e : Fe, (Fe.sgl e).length ≤ 20 ∧ as = [.d (eF e)] ∧ r = (Fe.sgl e).map eE
theorem sc_43 : FnScope ["edit"] ["edit"] (defScope (top 43)) := ⟨rfl, rfl, rfl, by decide +kernel, rfl, by decide +kernel, by decide +kernel⟩
theorem ok_singles (M : Mg mg) (S : Stands K mg "singles" 43) (D : Df0 P w K mg base "is_several" 1 (spU rSev)) : Df0 P w K mg base "singles" 2 (spN rSgl) := by
  refine mk_pun S sc_43 (fun as r h => by obtain ⟨i, _, rfl, _⟩ := h; rfl) (fun _ _ _ _ _ _ us hl => match us, hl with | [_], _ => rfl) fun f cdv A outer s H E hr as r h => ?_
  obtain ⟨e, he, rfl, rfl⟩ := h
  refine gon_ret (pun_if (pu_val (pu_call D.df hr (pua_cons (pu_var 0) pua_nil) ⟨e, he, rfl, rfl⟩)) (fun h => ?_) fun h => ?_)
  · cases e with
    | one e => cases h
    | all es => exact pun_listT M (pu_ixT (pu_var 0) pu_int (atI_nat' (n := 1) rfl rfl))
  · cases e with
    | one e => exact pun_lst (ds := [eE e]) (pua_cons (pu_var 0) pua_nil)
    | all es => cases h
/-! ### fits -/
def rFits : List Rs → Rs → Prop := fun as r => ∃ (l : List Itm) (s : Sim) (h : Int), VS l ∧ Btw l s h ∧ as = [.t l, .d (eS s), .d (.int h)] ∧ r = .d (.bool true)
theorem sc_41 : FnScope ["heights", "simplex", "height", "face", "other"] ["heights", "simplex", "height"] (defScope (top 41)) := ⟨rfl, rfl, rfl, by decide +kernel, rfl, by decide +kernel, by decide +kernel⟩
theorem ok_fits (M : Mg mg) (S : Stands K mg "fits" 41) (DF : Df0 P w K mg base "faces_of" 1 (spN rFac)) : Df0 P w K mg base "fits" 2 (spU rFits) := by
  refine mk_pu S sc_41 (fun as r h => by obtain ⟨i, _, _, _, _, rfl, _⟩ := h; rfl) (fun _ _ _ _ _ _ us hl => match us, hl with | [_, _, _], _ => rfl) fun f cdv A outer s H E hr as r h => ?_
  obtain ⟨l, t, h, V, ⟨b1, b2, b3, b4, b5⟩, rfl, rfl⟩ := h
  have hu1 : (A.deeper (envOfC "fits" (defScope (top 41)) s.heap.objs.size f cdv)).units + 1 < cLine := by have := hr.un; omega
  have hu : (A.deeper (envOfC "fits" (defScope (top 41)) s.heap.objs.size f cdv)).units + 65 < cLine := by have := hr.un; omega
  have hlen := V.len
  intro σ H0 S0 D q
  refine wss_cons (ws_pure (ds := (fc t).map eS) (Γ0 := [some (.t l), some (.d (eS t)), some (.d (.int h)), none, none]) (g := gName 3) [3] (srcS_new S0 (pun_call DF.df hr (pua_cons (pu_var 1) pua_nil) ⟨t, b1, rfl, rfl⟩)) (pg_name sc_41.nd rfl (Or.inl rfl)) S0 bare_of (fun i d hd σ' H' x sH SH hw im N hN => ?_) fun σ2 H2 s2 hw2 => ?_)
  · rw [List.getElem?_map] at hd
    cases hj : (fc t)[i]? with
    | none => rw [hj] at hd; cases hd
    | some fa =>
      rw [hj] at hd
      cases hd
      obtain ⟨h', hh, hle⟩ := b4 fa (List.mem_of_getElem? hj)
      have hlk := lk_mem V.nd hh
      have SH6 := SH.set 3 (r := .d _) im
      refine wss_one (ws_ifN SH6 ((PuB.t (pub_or (put_ninT hu1 (pu_var 3) (pu_var 0)) fun _ => pub_or1 (put_cmp op_gt rv_gt (by rfl) (pu_getT hu1 (pu_var 0) (pu_var 3) hlk) (pu_var 2)))).to (by rw [hlk]; simp; omega)) fun H8 s8 => hN _ _ s8 (wipe_set (by simp)))
  · have S2 := (S0.mono s2).wiped (W := [3]) hw2 bare_of
    refine wss_one (ws_ret S2 ((pu_not (pu_any (bs := (l.filter fun p => decide (t ∈ fc p.1)).map fun p => decide (p.2 < h)) M rfl ((pun_lcT1 ["heights", "simplex", "height", "face", "other"] (defScope (top 41)) 0 4 (fun p => decide (t ∈ fc p.1)) (fun p => .bool (decide (p.2 < h))) sc_41.nd rfl (by omega) (fun z hz _ _ _ _ _ => .one ?_) (fun z hz hp _ _ _ _ _ => ?_)).to map_bools).pu)).to ?_) fun v H3 s3 a3 => q v H3 (s2.trans s3) a3)
    · exact (put_cmp (op_inD hu) (rv_inD (sh_S t) (sh_Ss (fc z.1))) (by rfl) (pu_var 1) (pun_call DF.df hr (pua_cons (pu_var 4) pua_nil) ⟨z.1, V.sx z hz, rfl, rfl⟩).pu).to (any_S _ _)
    · exact pu_cmp op_lt rv_lt (by rfl) (pu_getT hu1 (pu_var 0) (pu_var 4) (lk_mem V.nd hz)) (pu_var 2)
    · congr 2
      simp only [Bool.not_eq_true', List.any_map, List.any_eq_false, Function.comp, id, decide_eq_true_eq]
      intro z hz
      rw [List.mem_filter] at hz
      have := b5 z hz.1 (by simpa using hz.2)
      omega
end
end K47
/-! P9: can_be_done, done -/
namespace K47
open PySem PySem.Spec PyProof.Rows L2
section
variable {P : Program} {w : World} {K : PySem.W.Frag} {mg : Str → Option Value} {base : Heap}
def rCan : List Rs → Rs → Prop := fun as r => ∃ (l : List Itm) (e : Ed), VS l ∧ Can l e ∧ as = [.l (l.map eTI), .d (eE e)] ∧ r = .d (.bool true)
theorem Can.ok {l : List Itm} {e : Ed} (V : VS l) (h : Can l e) : EdOk e := by
  cases e with
  | ht s h' => exact ⟨h.2.1, h.2.2.1, h.2.2.2.1⟩
  | ad s h' => exact ⟨h.2.2.1, h.2.2.2.1, h.2.2.2.2.1⟩
  | tk s =>
    obtain ⟨p, hp, e⟩ := List.mem_map.mp h.1
    show Sx s
    rw [← e]; exact V.sx p hp
theorem sc_42 : FnScope ["shape", "edit", "heights", "other"] ["shape", "edit"] (defScope (top 42)) := ⟨rfl, rfl, rfl, by decide +kernel, rfl, by decide +kernel, by decide +kernel⟩
theorem ok_can_be_done (M : Mg mg) (S : Stands K mg "can_be_done" 42) (DI : Df0 P w K mg base "is_single" 3 (spU rSing)) (DT : Df0 P w K mg base "fits" 2 (spU rFits)) (DF : Df0 P w K mg base "faces_of" 1 (spN rFac)) : Df0 P w K mg base "can_be_done" 4 (spU rCan) := by
  refine mk_pu S sc_42 (fun as r h => by obtain ⟨i, _, _, _, rfl, _⟩ := h; rfl) (fun _ _ _ _ _ _ us hl => match us, hl with | [_, _], _ => rfl) fun f cdv A outer s H E hr as r h => ?_
  obtain ⟨l, e, V, hc, rfl, rfl⟩ := h
  have hu1 : (A.deeper (envOfC "can_be_done" (defScope (top 42)) s.heap.objs.size f cdv)).units + 1 < cLine := by have := hr.un; omega
  have hu : (A.deeper (envOfC "can_be_done" (defScope (top 42)) s.heap.objs.size f cdv)).units + 65 < cLine := by have := hr.un; omega
  have hu2 : (A.deeper (envOfC "can_be_done" (defScope (top 42)) s.heap.objs.size f cdv)).units + 100 < cLine := by have := hr.un; omega
  have hlen := V.len
  refine go_if (b := false) ((put_not (pu_val (pu_call DI.df hr (pua_cons (pu_var 1) pua_nil) ⟨e, hc.ok V, rfl, rfl⟩))).to (by simp)) (fun h => nomatch h) fun _ => ?_
  refine go_set 2 sc_42.nd (pu_dictT (kvs := l) M rfl hu2 (pu_var 0) V.nd) ?_
  cases e with
  | tk t =>
    refine go_if (b := true) ((put_cmp op_eq rv_eqS (by rfl) (pu_ixT (pu_var 1) pu_int (atI_nat' (n := 0) rfl rfl)) pu_str).to (by rw [w_tt])) (fun _ => ?_) (fun h => nomatch h)
    refine go_ret ((pu_and (pu_inT hu1 (pu_ixT (pu_var 1) pu_int (atI_nat' (n := 1) rfl rfl)) (pu_var 2)) fun _ => pu_one (pu_not (pu_any (bs := (l.filter fun _ => true).map fun p => decide (t ∈ fc p.1)) M rfl ((pun_lcT1 ["shape", "edit", "heights", "other"] (defScope (top 42)) 2 3 (fun _ => true) (fun p => .bool (decide (t ∈ fc p.1))) sc_42.nd rfl (by omega) (fun z hz _ _ _ _ _ => .nil) (fun z hz hp _ _ _ _ _ => ?_)).to map_bools).pu))).to ?_)
    · exact (pu_cmp (op_inD hu) (rv_inD (sh_S t) (sh_Ss (fc z.1))) (by rfl) (pu_ixT (pu_var 1) pu_int (atI_nat' (n := 1) rfl rfl)) (pun_call DF.df (hr.mono (by decide)) (pua_cons (pu_var 3) pua_nil) ⟨z.1, V.sx z hz, rfl, rfl⟩).pu).to (by rw [any_S])
    · congr 2
      rw [lk_isSome, decide_eq_true hc.1, Bool.true_and]
      simp only [Bool.not_eq_true', List.any_map, List.any_eq_false, Function.comp, id, decide_eq_true_eq]
      intro z hz
      rw [List.mem_filter] at hz
      exact hc.2 z hz.1
  | ht t h =>
    refine go_if (b := false) ((put_cmp op_eq rv_eqS (by rfl) (pu_ixT (pu_var 1) pu_int (atI_nat' (n := 0) rfl rfl)) pu_str).to (by rw [w_ht])) (fun h => nomatch h) (fun _ => ?_)
    refine go_if (b := false) ((PuB.t (pub_and (c := false) (d := true) ((put_cmp op_eq rv_eqS (by rfl) (pu_ixT (pu_var 1) pu_int (atI_nat' (n := 0) rfl rfl)) pu_str).to (by rw [w_ha])) fun h => nomatch h)).to (by simp)) (fun h => nomatch h) (fun _ => ?_)
    refine go_ret ((pu_and (pu_cmp op_eq rv_eqB (by rfl) (pu_inT hu1 (pu_ixT (pu_var 1) pu_int (atI_nat' (n := 1) rfl rfl)) (pu_var 2)) (pu_cmp op_eq rv_eqS (by rfl) (pu_ixT (pu_var 1) pu_int (atI_nat' (n := 0) rfl rfl)) pu_str)) fun _ => pu_one (pu_call DT.df (hr.mono (by decide)) (pua_cons (pu_var 2) (pua_cons (pu_ixT (pu_var 1) pu_int (atI_nat' (n := 1) rfl rfl)) (pua_cons (pu_ixT (pu_var 1) pu_int (atI_nat' (n := 2) rfl rfl)) pua_nil))) ⟨l, t, h, V, hc.2, rfl, rfl⟩)).to ?_)
    rw [lk_isSome, decide_eq_true hc.1, w_hh]; rfl
  | ad t h =>
    have hcl := hc.2.1
    refine go_if (b := false) ((put_cmp op_eq rv_eqS (by rfl) (pu_ixT (pu_var 1) pu_int (atI_nat' (n := 0) rfl rfl)) pu_str).to (by rw [w_at])) (fun h => nomatch h) (fun _ => ?_)
    refine go_if (b := false) ((PuB.t (pub_and ((put_cmp op_eq rv_eqS (by rfl) (pu_ixT (pu_var 1) pu_int (atI_nat' (n := 0) rfl rfl)) pu_str).to (by rw [w_aa])) fun _ => pub_and1 (put_cmp op_ge rv_ge (by rfl) (pu_lenDT M (pu_var 2)) (pu_gint M.sm)))).to (by simp; omega)) (fun h => nomatch h) (fun _ => ?_)
    refine go_ret ((pu_and (pu_cmp op_eq rv_eqB (by rfl) (pu_inT hu1 (pu_ixT (pu_var 1) pu_int (atI_nat' (n := 1) rfl rfl)) (pu_var 2)) (pu_cmp op_eq rv_eqS (by rfl) (pu_ixT (pu_var 1) pu_int (atI_nat' (n := 0) rfl rfl)) pu_str)) fun _ => pu_one (pu_call DT.df (hr.mono (by decide)) (pua_cons (pu_var 2) (pua_cons (pu_ixT (pu_var 1) pu_int (atI_nat' (n := 1) rfl rfl)) (pua_cons (pu_ixT (pu_var 1) pu_int (atI_nat' (n := 2) rfl rfl)) pua_nil))) ⟨l, t, h, V, hc.2.2, rfl, rfl⟩)).to ?_)
    rw [lk_isSome, decide_eq_false hc.1, w_ah]; rfl
/-! ### done -/
def rDone : List Rs → List PyData → Prop := fun as r => ∃ (l : List Itm) (e : Ed) (pl : PyData), VS l ∧ Can l e ∧ as = [.l (l.map eTI), .d (eE e), .d pl] ∧ r = (app l e).map eTI
theorem sc_44 : FnScope ["shape", "edit", "place", "found", "item"] ["shape", "edit", "place"] (defScope (top 44)) := ⟨rfl, rfl, rfl, by decide +kernel, rfl, by decide +kernel, by decide +kernel⟩
theorem eE_at1 (e : Ed) : ∃ ds, eE e = .tuple ds ∧ ds[1]? = some (eS e.sim) := by cases e <;> exact ⟨_, rfl, rfl⟩
theorem ok_done (M : Mg mg) (S : Stands K mg "done" 44) (DC : Df0 P w K mg base "can_be_done" 4 (spU rCan)) (DG : Df0 P w K mg base "grown" 3 (spN rGrown)) : Df0 P w K mg base "done" 5 (spN rDone) := by
  refine mk_pun S sc_44 (fun as r h => by obtain ⟨i, _, _, _, _, rfl, _⟩ := h; rfl) (fun _ _ _ _ _ _ us hl => match us, hl with | [_, _, _], _ => rfl) fun f cdv A outer s H E hr as r h => ?_
  obtain ⟨l, e, pl, V, hc, rfl, rfl⟩ := h
  have hu : (A.deeper (envOfC "done" (defScope (top 44)) s.heap.objs.size f cdv)).units + 64 < cLine := by have := hr.un; omega
  have hlen := V.len
  have hwo : (wo l e.sim).length ≤ 60 := Nat.le_trans (List.length_filter_le _ _) hlen
  intro σ H0 S0 D q
  refine wss_cons (ws_ifN S0 ((put_not (pu_val (pu_call DC.df hr (pua_cons (pu_var 0) (pua_cons (pu_var 1) pua_nil)) ⟨l, e, V, hc, rfl, rfl⟩))).to (by simp)) fun H1 s1 => ?_)
  have S1 := S0.mono s1
  refine wss_cons (ws_setLc 3 S1 ((lcd1 (xs := l) (enc := eTI) ["shape", "edit", "place", "found", "item"] (defScope (top 44)) 4 (fun p => decide (p.1 ≠ e.sim)) eTI (src_list (pu_var 0)) sc_44.nd (by omega) (fun p _ _ _ _ _ _ => .one ?_) (fun p _ _ _ _ _ _ _ => pu_var 4))) fun q3 H2 n2 s2 l2 => ?_)
  · have key : ∀ (X : Cx) (Γ : Gm) (ex : Expr) (pos : Pos), X.A.units + 64 < cLine → Pu X Γ ex (.d (eS e.sim)) → ∀ ey, Pu X Γ ey (.d (eS p.1)) → behindInMarks .NotEq ex = false → PuT X Γ (.Compare ey [.NotEq] [ex] pos) (decide (p.1 ≠ e.sim)) := fun X Γ ex pos hu h ey h2 hm => (put_cmp (op_neD hu) (rv_neD (sh_S _) (sh_S _)) hm h2 h).to (by rw [eqv_S]; simp)
    obtain ⟨ds, e1, e2⟩ := eE_at1 e
    exact key _ _ _ _ hu (pu_ixT ((pu_var 1).to (by rw [e1])) pu_int (atI_nat' (n := 1) e2 rfl)) _ (pu_ixT (pu_var 4) pu_int (atI_nat' (n := 0) rfl rfl)) (by rfl)
  · have fin : ∀ H3 σ3, SameX q3 H2 H3 → Ls H3 q3 ((wo l e.sim ++ e.add).map eTI) → Sl H1 σ3 [some (.l (l.map eTI)), some (.d (eE e)), some (.d pl), none, none] → σ3[3]? = some (some (.ref q3)) →
        WSs ((cxOf CX0 P w K mg base ["shape", "edit", "place", "found", "item"] "done" (defScope (top 44)) f cdv A outer s H E).nox) ((defBody (top 44)).drop 3) D σ3 H3 := fun H3 σ3 x3 l3 S3 hv => by
      have s13 : Same H1 H3 := x3.base s2 n2
      have S4 := (S3.mono s13).add 3 (r := .l _) hv ⟨q3, rfl, l3⟩
      exact wss_one (ws_retN S4 (pun_call DG.df (hr.mono (by decide)) (pua_cons (pu_var 3) pua_nil) ⟨_, rfl, rfl⟩) fun p H4 n4 s4 l4 => q p H4 ((s1.trans s13).free n4) ((s1.trans s13).trans s4) l4)
    have S2 := (S1.mono s2).set 3 (r := .l ((wo l e.sim).map eTI)) ⟨q3, rfl, l2⟩
    have S1' := (S1.set0 (v := .ref q3) 3)
    have hσ : σ.length = 5 := S0.len.symm
    have hv : (σ.set 3 (some (L2.V.ref q3)))[3]? = some (some (.ref q3)) := List.getElem?_set_self (by omega)
    cases e with
    | tk t => exact wss_cons (ws_if (b := false) S2 ((put_cmp op_ne rv_neS (by rfl) (pu_ixT (pu_var 1) pu_int (atI_nat' (n := 0) rfl rfl)) pu_str).to (by rw [w_tt]; rfl)) (fun h => nomatch h) fun _ H3 s3 => wss_nil (fin H3 _ (.of s3) (by simpa [Ed.add, wo] using l2.mono s3) S1' hv))
    | ht t h => exact wss_cons (ws_if (b := true) S2 ((put_cmp op_ne rv_neS (by rfl) (pu_ixT (pu_var 1) pu_int (atI_nat' (n := 0) rfl rfl)) pu_str).to (by rw [w_ht]; rfl)) (fun _ H3 s3 => wss_one (ws_app 3 (d := eTI (t, h)) (S2.mono s3) hv (l2.mono s3) ((pu_tup (ds := [eS t, .int h]) (pua_cons (pu_ixT (pu_var 1) pu_int (atI_nat' (n := 1) rfl rfl)) (pua_cons (pu_ixT (pu_var 1) pu_int (atI_nat' (n := 2) rfl rfl)) pua_nil)) (by simp)).to rfl) (by rw [List.length_map]; exact Nat.le_trans hwo (by decide)) fun H4 x4 l4 => fin H4 _ ((SameX.of s3).trans x4) (by simpa [Ed.add, wo] using l4) S1' hv)) (fun h => nomatch h))
    | ad t h => exact wss_cons (ws_if (b := true) S2 ((put_cmp op_ne rv_neS (by rfl) (pu_ixT (pu_var 1) pu_int (atI_nat' (n := 0) rfl rfl)) pu_str).to (by rw [w_at]; rfl)) (fun _ H3 s3 => wss_one (ws_app 3 (d := eTI (t, h)) (S2.mono s3) hv (l2.mono s3) ((pu_tup (ds := [eS t, .int h]) (pua_cons (pu_ixT (pu_var 1) pu_int (atI_nat' (n := 1) rfl rfl)) (pua_cons (pu_ixT (pu_var 1) pu_int (atI_nat' (n := 2) rfl rfl)) pua_nil)) (by simp)).to rfl) (by rw [List.length_map]; exact Nat.le_trans hwo (by decide)) fun H4 x4 l4 => fin H4 _ ((SameX.of s3).trans x4) (by simpa [Ed.add, wo] using l4) S1' hv)) (fun h => nomatch h))
end
end K47
/-! M2: shapes and edits, plainly. -/
namespace K47
open PySem PySem.Spec PyProof.Rows L2
theorem wo_gr (l : List Itm) (s : Sim) : wo (gr l) s = gr (wo l s) := gr_filter _ _
theorem wo_app (l m : List Itm) (s : Sim) : wo (l ++ m) s = wo l s ++ wo m s := by unfold wo; rw [List.filter_append]
theorem wo_wo (l : List Itm) (s : Sim) : wo (wo l s) s = wo l s := by unfold wo; rw [List.filter_filter]; simp
theorem wo_none {l : List Itm} {s : Sim} (h : s ∉ l.map (·.1)) : wo l s = l := by
  unfold wo
  rw [List.filter_eq_self]
  intro p hp
  have : p.1 ≠ s := fun e => h (List.mem_map.mpr ⟨p, hp, e⟩)
  simp [this]
theorem gr_app (a b : List Itm) : gr (gr a ++ b) = gr (a ++ b) := gr_of_perm ((gr_perm a).append_right b)
theorem mem_wo {l : List Itm} {s : Sim} {p : Itm} : p ∈ wo l s ↔ p ∈ l ∧ p.1 ≠ s := by unfold wo; simp
/-- an item taken out and put back -/
theorem wo_perm {l : List Itm} (nd : (l.map (·.1)).Nodup) {s : Sim} {h : Int} (m : (s, h) ∈ l) : (wo l s ++ [(s, h)]).Perm l := by
  induction l with
  | nil => simp at m
  | cons p r ih =>
    rw [List.map_cons, List.nodup_cons] at nd
    by_cases e : p.1 = s
    · have hn : s ∉ r.map (·.1) := by rw [← e]; exact nd.1
      have e2 : wo (p :: r) s = r := by
        unfold wo
        rw [List.filter_cons_of_neg (by simp [e])]
        exact wo_none hn
      rcases List.mem_cons.mp m with z | z
      · rw [e2, z]; exact List.perm_append_singleton p r
      · exact absurd (List.mem_map.mpr ⟨_, z, rfl⟩) hn
    · have e2 : wo (p :: r) s = p :: wo r s := by
        unfold wo
        rw [List.filter_cons_of_pos (by simp [e])]
      rw [e2]
      rcases List.mem_cons.mp m with z | z
      · rw [← z] at e; simp at e
      · exact (ih nd.2 z).cons p
theorem keys_perm {l m : List Itm} (h : l.Perm m) : (l.map (·.1)).Perm (m.map (·.1)) := h.map _
theorem VS.perm {l m : List Itm} (V : VS l) (h : m.Perm l) : VS m where
  len := by rw [h.length_eq]; exact V.len
  sx := fun p hp => V.sx p (h.mem_iff.mp hp)
  ht := fun p hp => V.ht p (h.mem_iff.mp hp)
  nd := (keys_perm h).nodup_iff.mpr V.nd
  fc := fun p hp f hf => by
    obtain ⟨h', m', l'⟩ := V.fc p (h.mem_iff.mp hp) f hf
    exact ⟨h', h.mem_iff.mpr m', l'⟩
theorem VS.gr {l : List Itm} (V : VS l) : VS (gr l) := V.perm (gr_perm l)
theorem keys_wo {l : List Itm} {s t : Sim} : t ∈ (wo l s).map (·.1) ↔ t ∈ l.map (·.1) ∧ t ≠ s := by
  constructor
  · intro h
    obtain ⟨p, hp, rfl⟩ := List.mem_map.mp h
    rw [mem_wo] at hp
    exact ⟨List.mem_map.mpr ⟨p, hp.1, rfl⟩, hp.2⟩
  · rintro ⟨h, hn⟩
    obtain ⟨p, hp, rfl⟩ := List.mem_map.mp h
    exact List.mem_map.mpr ⟨p, mem_wo.mpr ⟨hp, hn⟩, rfl⟩
theorem wo_nd {l : List Itm} (nd : (l.map (·.1)).Nodup) (s : Sim) : ((wo l s).map (·.1)).Nodup := (List.filter_sublist.map _).nodup nd
theorem wo_len {l : List Itm} (nd : (l.map (·.1)).Nodup) {s : Sim} (h : s ∈ l.map (·.1)) : (wo l s).length + 1 = l.length := by
  obtain ⟨p, hp, rfl⟩ := List.mem_map.mp h
  have := (wo_perm nd (s := p.1) (h := p.2) hp).length_eq
  simpa using this
theorem fc_ne {s f : Sim} (h : f ∈ fc s) : f.length < s.length := by
  unfold fc at h
  split at h
  · simp at h; rcases h with rfl | rfl <;> simp
  · simp at h; rcases h with rfl | rfl | rfl <;> simp
  · simp at h
theorem fc_self {s : Sim} : s ∉ fc s := fun h => by have := fc_ne h; omega
/-- an item put between its faces and cofaces -/
theorem VS.put {l : List Itm} {s : Sim} {h : Int} (V : VS l) (hl : (wo l s).length < 60) (b : Btw l s h) : VS (wo l s ++ [(s, h)]) where
  len := by rw [List.length_append, List.length_singleton]; omega
  sx := fun p hp => by
    rcases List.mem_append.mp hp with q | q
    · exact V.sx p (mem_wo.mp q).1
    · rw [List.mem_singleton.mp q]; exact b.1
  ht := fun p hp => by
    rcases List.mem_append.mp hp with q | q
    · exact V.ht p (mem_wo.mp q).1
    · rw [List.mem_singleton.mp q]; exact ⟨b.2.1, b.2.2.1⟩
  nd := by
    rw [List.map_append, List.nodup_append]
    refine ⟨wo_nd V.nd s, by simp, fun a ha c hc e => ?_⟩
    simp at hc
    rw [← e] at hc
    subst hc
    exact (keys_wo.mp ha).2 rfl
  fc := fun p hp f hf => by
    rcases List.mem_append.mp hp with q | q
    · obtain ⟨q1, q2⟩ := mem_wo.mp q
      obtain ⟨h', m', l'⟩ := V.fc p q1 f hf
      by_cases e : f = s
      · subst e
        exact ⟨h, List.mem_append.mpr (.inr (by simp)), b.2.2.2.2 p q1 hf⟩
      · exact ⟨h', List.mem_append.mpr (.inl (mem_wo.mpr ⟨m', e⟩)), l'⟩
    · rw [List.mem_singleton.mp q] at hf ⊢
      obtain ⟨h', m', l'⟩ := b.2.2.2.1 f hf
      have e : f ≠ s := fun e => by subst e; exact fc_self hf
      exact ⟨h', List.mem_append.mpr (.inl (mem_wo.mpr ⟨m', e⟩)), l'⟩
theorem VS.out {l : List Itm} {s : Sim} (V : VS l) (b : ∀ p ∈ l, s ∉ K47.fc p.1) : VS (wo l s) where
  len := Nat.le_trans (List.length_filter_le _ _) V.len
  sx := fun p hp => V.sx p (mem_wo.mp hp).1
  ht := fun p hp => V.ht p (mem_wo.mp hp).1
  nd := wo_nd V.nd s
  fc := fun p hp f hf => by
    obtain ⟨q1, q2⟩ := mem_wo.mp hp
    obtain ⟨h', m', l'⟩ := V.fc p q1 f hf
    exact ⟨h', mem_wo.mpr ⟨m', fun e => b p q1 (by rw [← e]; exact hf)⟩, l'⟩
theorem VS.app {l : List Itm} {e : Ed} (V : VS l) (c : Can l e) : VS (app l e) := by
  cases e with
  | ht s h => exact (V.put (by have := wo_len V.nd c.1; have := V.len; omega) c.2).gr
  | ad s h => exact (V.put (by have := c.2.1; have : (wo l s).length ≤ l.length := List.length_filter_le _ _; omega) c.2.2).gr
  | tk s =>
    have : VS (wo l s ++ []) := by rw [List.append_nil]; exact V.out c.2
    exact this.gr
/-! ### several -/
def Cans (l : List Itm) : List Ed → Prop
  | [] => True
  | e :: es => Can l e ∧ Cans (app l e) es
def run (l : List Itm) : List Ed → List (List Itm)
  | [] => [l]
  | e :: es => l :: run (app l e) es
def fin (l : List Itm) (es : List Ed) : List Itm := es.foldl app l
theorem run_len : ∀ (es : List Ed) (l : List Itm), (run l es).length = es.length + 1
  | [], _ => rfl
  | e :: es, l => by simp [run, run_len es]
theorem run_zero (es : List Ed) (l : List Itm) : (run l es)[0]? = some l := by cases es <;> rfl
theorem run_at : ∀ (es : List Ed) (l : List Itm), VS l → Cans l es → ∀ (i : Nat) (e : Ed), es[i]? = some e → ∃ x, (run l es)[i]? = some x ∧ VS x ∧ Can x e ∧ (run l es)[i + 1]? = some (app x e)
  | [], _, _, _, _, _, h => by simp at h
  | a :: es, l, V, c, 0, e, h => by
    simp at h
    subst h
    exact ⟨l, rfl, V, c.1, by simp [run, run_zero]⟩
  | a :: es, l, V, c, i + 1, e, h => by
    obtain ⟨x, h1, h2, h3, h4⟩ := run_at es (app l a) (V.app c.1) c.2 i e (by simpa using h)
    exact ⟨x, by simpa [run] using h1, h2, h3, by simpa [run] using h4⟩
theorem run_last : ∀ (es : List Ed) (l : List Itm), (run l es)[es.length]? = some (fin l es)
  | [], _ => rfl
  | e :: es, l => by simpa [run, fin] using run_last es (app l e)
theorem VS.fin : ∀ {es : List Ed} {l : List Itm}, VS l → Cans l es → VS (fin l es)
  | [], _, V, _ => V
  | _ :: es, _, V, c => VS.fin (es := es) (V.app c.1) c.2
theorem cans_append {es fs : List Ed} {l : List Itm} : Cans l (es ++ fs) ↔ Cans l es ∧ Cans (fin l es) fs := by
  induction es generalizing l with
  | nil => simp [Cans, fin]
  | cons e es ih => simp [Cans, fin, ih, and_assoc]
theorem fin_append {es fs : List Ed} {l : List Itm} : fin l (es ++ fs) = fin (fin l es) fs := by simp [fin, List.foldl_append]
/-! ### back -/
def lkh (l : List Itm) (s : Sim) : Int := (lkT l s).getD 0
def backE (l : List Itm) : Ed → Ed
  | .ht s _ => .ht s (lkh l s)
  | .ad s _ => .tk s
  | .tk s => .ad s (lkh l s)
theorem lkh_mem {l : List Itm} {s : Sim} (h : s ∈ l.map (·.1)) : (s, lkh l s) ∈ l := by
  cases e : lkT l s with
  | none => exact absurd h (lk_none.mp e)
  | some v =>
    unfold lkh
    rw [e]; exact lk_some e
theorem lkh_eq {l : List Itm} (nd : (l.map (·.1)).Nodup) {s : Sim} {h : Int} (m : (s, h) ∈ l) : lkh l s = h := by unfold lkh; rw [lk_mem nd m]; rfl
theorem app_mem {l : List Itm} {e : Ed} {p : Itm} : p ∈ app l e ↔ (p ∈ l ∧ p.1 ≠ e.sim) ∨ p ∈ e.add := by
  unfold app
  rw [mem_gr, List.mem_append, mem_wo]
theorem app_sorted (l : List Itm) (e : Ed) : gr (app l e) = app l e := gr_gr _
theorem wo_appE {l : List Itm} {e : Ed} : wo (app l e) e.sim = gr (wo l e.sim) := by
  unfold app
  rw [wo_gr, wo_app, wo_wo]
  have : wo e.add e.sim = [] := by cases e <;> simp [wo, Ed.add, Ed.sim]
  rw [this, List.append_nil]
theorem btw_of {l : List Itm} (V : VS l) {s : Sim} {h : Int} (m : (s, h) ∈ l) : Btw l s h :=
  ⟨V.sx _ m, (V.ht _ m).1, (V.ht _ m).2, fun f hf => V.fc _ m f hf, fun p hp hs => by
    obtain ⟨h', m', l'⟩ := V.fc p hp s hs
    have : h' = h := by
      have e1 := lk_mem V.nd m'
      have e2 := lk_mem V.nd m
      rw [e1] at e2; exact Option.some.inj e2
    omega⟩
/-- an edit and back -/
theorem back_ok {l : List Itm} {e : Ed} (V : VS l) (hs : gr l = l) (c : Can l e) : Can (app l e) (backE l e) ∧ app (app l e) (backE l e) = l := by
  have hsim : (backE l e).sim = e.sim := by cases e <;> rfl
  have e1 : app (app l e) (backE l e) = gr (wo l e.sim ++ (backE l e).add) := by
    show gr (wo (app l e) (backE l e).sim ++ (backE l e).add) = _
    rw [hsim, wo_appE, gr_app]
  cases e with
  | ad s h =>
    have hn : s ∉ l.map (·.1) := c.1
    refine ⟨⟨List.mem_map.mpr ⟨(s, h), app_mem.mpr (.inr (by simp [Ed.add])), rfl⟩, fun p hp hf => ?_⟩, ?_⟩
    · rcases app_mem.mp hp with q | q
      · obtain ⟨h', m', _⟩ := V.fc p q.1 s hf
        exact hn (List.mem_map.mpr ⟨_, m', rfl⟩)
      · simp [Ed.add] at q
        rw [q] at hf; exact fc_self hf
    · rw [e1]
      show gr (wo l s ++ []) = l
      rw [List.append_nil, wo_none hn, hs]
  | ht s h =>
    have m := lkh_mem c.1
    have b := btw_of V m
    refine ⟨⟨List.mem_map.mpr ⟨(s, h), app_mem.mpr (.inr (by simp [Ed.add])), rfl⟩, b.1, b.2.1, b.2.2.1, fun f hf => ?_, fun p hp hf => ?_⟩, ?_⟩
    · obtain ⟨h', m', l'⟩ := b.2.2.2.1 f hf
      exact ⟨h', app_mem.mpr (.inl ⟨m', fun z => fc_self (s := s) (by rw [show f = s from z] at hf; exact hf)⟩), l'⟩
    · rcases app_mem.mp hp with q | q
      · exact b.2.2.2.2 p q.1 hf
      · simp [Ed.add] at q
        rw [q] at hf; exact absurd hf fc_self
    · rw [e1]
      show gr (wo l s ++ [(s, lkh l s)]) = l
      rw [gr_of_perm (wo_perm V.nd m), hs]
  | tk s =>
    have m := lkh_mem c.1
    have b := btw_of V m
    have hl : (app l (.tk s)).length + 1 = l.length := by
      unfold app
      rw [gr_length]
      show (wo l s ++ []).length + 1 = _
      rw [List.append_nil]; exact wo_len V.nd c.1
    refine ⟨⟨fun z => ?_, by have := V.len; omega, b.1, b.2.1, b.2.2.1, fun f hf => ?_, fun p hp hf => ?_⟩, ?_⟩
    · obtain ⟨p, hp, e⟩ := List.mem_map.mp z
      rcases app_mem.mp hp with q | q
      · exact q.2 e
      · simp [Ed.add] at q
    · obtain ⟨h', m', l'⟩ := b.2.2.2.1 f hf
      exact ⟨h', app_mem.mpr (.inl ⟨m', fun z => fc_self (s := s) (by rw [show f = s from z] at hf; exact hf)⟩), l'⟩
    · rcases app_mem.mp hp with q | q
      · exact b.2.2.2.2 p q.1 hf
      · simp [Ed.add] at q
    · rw [e1]
      show gr (wo l s ++ [(s, lkh l s)]) = l
      rw [gr_of_perm (wo_perm V.nd m), hs]
def backs (l : List Itm) : List Ed → List Ed
  | [] => []
  | e :: es => backE l e :: backs (app l e) es
theorem backs_len : ∀ (es : List Ed) (l : List Itm), (backs l es).length = es.length
  | [], _ => rfl
  | e :: es, l => by simp [backs, backs_len es]
theorem backs_at : ∀ (es : List Ed) (l : List Itm) (i : Nat) (e : Ed) (x : List Itm), es[i]? = some e → (run l es)[i]? = some x → (backs l es)[i]? = some (backE x e)
  | [], _, _, _, _, h, _ => by simp at h
  | a :: es, l, 0, e, x, h, h2 => by
    simp at h
    simp [run] at h2
    subst h h2; rfl
  | a :: es, l, i + 1, e, x, h, h2 => by
    have := backs_at es (app l a) i e x (by simpa using h) (by simpa [run] using h2)
    simpa [backs] using this
theorem backs_ok : ∀ (es : List Ed) (l : List Itm), VS l → gr l = l → Cans l es → Cans (fin l es) (backs l es).reverse ∧ fin (fin l es) (backs l es).reverse = l
  | [], l, _, _, _ => ⟨True.intro, rfl⟩
  | e :: es, l, V, hs, c => by
    obtain ⟨h1, h2⟩ := backs_ok es (app l e) (V.app c.1) (app_sorted l e) c.2
    obtain ⟨h3, h4⟩ := back_ok V hs c.1
    have e1 : fin l (e :: es) = fin (app l e) es := rfl
    rw [e1]
    show Cans _ ((backE l e :: backs (app l e) es).reverse) ∧ _
    rw [List.reverse_cons, cans_append, h2]
    refine ⟨⟨h1, h3, True.intro⟩, ?_⟩
    show fin _ ((backE l e :: backs (app l e) es).reverse) = l
    rw [List.reverse_cons, fin_append, h2]
    exact h4
theorem fin_sorted : ∀ (es : List Ed) (l : List Itm), gr l = l → gr (fin l es) = fin l es
  | [], _, h => h
  | e :: es, l, _ => fin_sorted es (app l e) (app_sorted l e)
end K47
/-! P10: states, edited -/
namespace K47
open PySem PySem.Spec PyProof.Rows L2
/-! ### more of one phase -/
section
variable {X : Cx} {Γ : Gm} {σ : L2.St} {H : Hp} {e o : Expr} {es : List Expr} {pos p : Pos} {Q : VK} {QA : List V → Hp → Prop} {x : Str} {k : Nat} {sp : Sp}
theorem wa_nil (q : QA [] H) : WA X [] σ H QA := wa_of pa_nil q
theorem wa_cons (h : WE X e σ H fun v H1 => WA X es σ H1 fun vs H2 => QA (v :: vs) H2) (hs : starEach (e :: es) X.env = (false, eval e X.env) :: starEach es X.env := by rfl) : WA X (e :: es) σ H QA := wa_of (pa_cons pe_we pa_wa hs) h
theorem WA.mono {QA' : List V → Hp → Prop} (h : WA X es σ H QA) (q : ∀ vs H', QA vs H' → QA' vs H') : WA X es σ H QA' := fun pos pins s I => thn (h pos pins s I) fun us s' ⟨vs, H', I', r, z⟩ => ⟨vs, H', I', r, q _ _ z⟩
theorem we_pu {r : Rs} (S : Sl H σ Γ) (h : Pu X Γ e r) (q : ∀ v H', Same H H' → At H' v r → Q v H') : WE X e σ H Q := h σ H S Q q
theorem we_puN {ds : List PyData} (S : Sl H σ Γ) (h : PuN X Γ e ds) (q : ∀ p H', H p = none → Same H H' → Ls H' p ds → Q (.ref p) H') : WE X e σ H Q := h σ H S Q q
theorem we_lst (h : WA X es σ H fun vs H1 => vs.length ≤ sizeLine ∧ ∀ p, H1 p = none → Q (.ref p) (upd H1 p (.lst vs))) : WE X (.List es pos) σ H Q := we_of (pe_lst pa_wa) h
theorem we_tup {kk} (h : WA X es σ H fun vs H1 => vs.length ≤ sizeLine ∧ ∀ p, H1 p = none → Q (.ref p) (upd H1 p (.tup vs))) : WE X (.Tuple es kk pos) σ H Q := we_of (pe_tup pa_wa) h
theorem we_call (D : Df X x k sp) (hr : Room k X.A) (h : WA X (e :: es) σ H fun vs H1 => ∀ E, sp vs H1 Q E) (hg : Gl X x := by rfl)
    (hdb : (x == ("__debug__" : Str)) = false := by decide) (he : starEach (e :: es) X.env = (false, eval e X.env) :: starEach es X.env := by rfl) (hpl : (backTo pos (starEach es X.env)).any (·.1) = false := by rfl) : WE X (.Call (.Name x p) (e :: es) [] pos) σ H Q := by
  obtain ⟨f, fd, ps, F, hm, hk, hb⟩ := D.ex
  exact we_of (pe_call (E := fun _ _ _ => True) F hr hg hm hk hb .nil pass0 pa_wa hdb he hpl) (h.mono fun vs H1 z => by rw [List.append_nil]; exact z _)
/-- a place of a list of anything -/
theorem we_ixL {b : Expr} (h : WE X o σ H fun u H1 => WE X b σ H1 fun z H2 => ∃ q xs i v, u = .ref q ∧ z = .int i ∧ H2 q = some (.lst xs) ∧ atI xs i = some v ∧ Q v H2) (hs : PlainIx b := by exact fun _ _ => rfl) : WE X (.Subscript o b pos) σ H Q :=
  we_of (pe_ix ix_list pe_we pe_we hs) (h.mono fun u H1 z => z.mono fun y H2 ⟨q, xs, i, v, e1, e2, e3, e4, q4⟩ => ⟨q, xs, i, v, e1, e2, SqL.of e3, e4, q4⟩)
end
/-- lists of items, one by one -/
abbrev LL (H : Hp) (qs : List Addr) (ls : List (List Itm)) : Prop := Paired (fun q l => Ls H q (l.map eTI)) qs ls
theorem LL.mono {H H' : Hp} {qs : List Addr} {ls : List (List Itm)} (s : Same H H') (h : LL H qs ls) : LL H' qs ls := Paired.mapP h fun _ _ z => z.mono s
theorem paired_append {α β : Type} {F : α → β → Prop} : ∀ {a : List α} {b : List β} {c : List α} {d : List β}, Paired F a b → Paired F c d → Paired F (a ++ c) (b ++ d)
  | _, _, _, _, .nil, h => h
  | _, _, _, _, .cons x t, h => .cons x (paired_append t h)
theorem paired_get {α β : Type} {F : α → β → Prop} : ∀ {a : List α} {b : List β} {i : Nat} {y : β}, Paired F a b → b[i]? = some y → ∃ x, a[i]? = some x ∧ F x y
  | _, _, _, _, .nil, h => by simp at h
  | _, _, 0, _, .cons x t, h => by simp at h; subst h; exact ⟨_, rfl, x⟩
  | _, _, i + 1, _, .cons x t, h => by
    obtain ⟨z, h1, h2⟩ := paired_get (i := i) t (by simpa using h)
    exact ⟨z, by simpa using h1, h2⟩
section
variable {P : Program} {w : World} {K : PySem.W.Frag} {mg : Str → Option Value} {base : Heap}
def spSt : Sp := fun vs H Q _ => ∃ (l : List Itm) (e : Fe), AtAll H vs [.l (l.map eTI), .d (eF e)] ∧ VS l ∧ e.sgl.length ≤ 20 ∧ Cans (gr l) e.sgl ∧
  ∀ p qs H', H p = none → Same H H' → H' p = some (.lst (qs.map V.ref)) → LL H' qs (run (gr l) e.sgl) → (∀ q ∈ qs, H q = none) → Q (.ref p) H'
theorem sc_45 : FnScope ["shape", "edit", "found", "place", "single"] ["shape", "edit"] (defScope (top 45)) := ⟨rfl, rfl, rfl, by decide +kernel, rfl, by decide +kernel, by decide +kernel⟩
theorem ok_states (M : Mg mg) (S : Stands K mg "states" 45) (DG : Df0 P w K mg base "grown" 3 (spN rGrown)) (DD : Df0 P w K mg base "done" 5 (spN rDone)) (DS : Df0 P w K mg base "singles" 2 (spN rSgl)) (DV : Df0 P w K mg base "is_several" 1 (spU rSev)) : Df0 P w K mg base "states" 6 spSt := by
  refine mk_def S sc_45 (fun vs H Q E h => by obtain ⟨l, e, a, _⟩ := h; exact (Paired.length a).trans rfl) (fun _ _ _ _ _ _ us hl => match us, hl with | [_, _], _ => rfl) fun f cdv A outer s0 H vs Q E hr h => ?_
  obtain ⟨l, e, ha, VV, hz, hc, q⟩ := h
  have S0 := sl_start' (N := ["shape", "edit", "found", "place", "single"]) ha
  have hσ : (L2.start ["shape", "edit", "found", "place", "single"] vs).length = 5 := S0.len.symm
  generalize L2.start ["shape", "edit", "found", "place", "single"] vs = σ at S0 hσ ⊢
  -- found = [grown(shape)]
  refine wss_cons (ws_setW 2 sc_45.nd (we_lst (wa_cons (we_puN S0 (pun_call DG.df (hr.mono (by decide)) (pua_cons (pu_var 0) pua_nil) ⟨l, rfl, rfl⟩) fun q0 H1 n1 s1 l1 => wa_nil ⟨by show 1 ≤ sizeLine; decide, fun p0 hp0 => ?_⟩))))
  have n0 : H p0 = none := s1.free hp0
  have hne : q0 ≠ p0 := fun e => by subst e; obtain ⟨_, h, _⟩ := l1; rw [hp0] at h; cases h
  have s2 : Same H (upd H1 p0 (.lst [V.ref q0])) := s1.trans (same_new hp0)
  have S0' := S0.set0 (v := V.ref p0) 2
  have hv : (σ.set 2 (some (V.ref p0)))[2]? = some (some (V.ref p0)) := List.getElem?_set_self (by omega)
  generalize hσ2 : σ.set 2 (some (V.ref p0)) = σ2 at S0' hv ⊢
  have Γ0 : Gm := [some (.l (l.map eTI)), some (.d (eF e)), none, none, none]
  refine wss_cons (ws_for (g := g2 K 3 4) (Iq := fun a => a ≠ p0) (srcS_enumW (ds := e.sgl.map eE) M fun Q' hQ => we_puN (S0'.mono s2) (pun_call DS.df (hr.mono (by decide)) (pua_cons (pu_var 1) pua_nil) ⟨e, hz, rfl, rfl⟩) fun a H3 n3 s3 l3 => hQ a H3 s3 l3 fun z => by subst z; rw [upd_same] at n3; cases n3) (pg_2 3 4 sc_45.nd) fun p H2 s3 hpq => ?_)
  have sB : Same H H2 := s2.trans s3
  have hp2 : H2 p0 = some (.lst [V.ref q0]) := s3 _ _ upd_same
  have VG := VV.gr
  refine ⟨fun i σ' H' => SameX p0 H2 H' ∧ wipe σ' [3, 4] = wipe σ2 [3, 4] ∧ ∃ qs : List Addr, H' p0 = some (.lst (qs.map V.ref)) ∧ LL H' qs ((run (gr l) e.sgl).take (i + 1)) ∧ ∀ x ∈ qs, H x = none ∧ x ≠ p0, ⟨.refl _ _, rfl, [q0], hp2, ?_, ?_⟩, fun i σ' H' _ h => ?_, fun i d σ' H' x H3 hd hP s4 im => ?_, fun σ' H' hP => ?_⟩
  · have e1 : (run (gr l) e.sgl).take (0 + 1) = [gr l] := by
      cases e.sgl <;> simp [run]
    rw [e1]
    exact .cons ((l1.mono (same_new hp0)).mono s3) .nil
  · intro x hx
    rw [List.mem_singleton.mp hx]
    exact ⟨n1, hne⟩
  · refine ⟨fun a xs ex => h.1 a _ (fun z => by subst z; rw [hp2] at ex; cases ex) ex, fun a ea o ho => h.1 a o (hpq a ea).1 ho⟩
  · obtain ⟨xP, wP, qs, hqs, LLq, fr⟩ := hP
    have hi : i < e.sgl.length := by
      have := (List.getElem?_eq_some_iff.mp hd).1
      simpa using this
    obtain ⟨ei, hei⟩ : ∃ ei, e.sgl[i]? = some ei := ⟨_, List.getElem?_eq_getElem hi⟩
    have hd' : d = .tuple [.int (i : Nat), eE ei] := by
      simp [hei] at hd
      exact hd.symm
    subst hd'
    obtain ⟨xi, r1, r2, r3, r4⟩ := run_at e.sgl (gr l) VG hc i ei hei
    have sH3 : Same H H3 := (xP.base sB n0).trans s4
    have SH : Sl H σ' [some (.l (l.map eTI)), some (.d (eF e)), none, none, none] := S0'.wiped wP bare_of
    refine gd_2 (vs := [3, 4]) (by simp) (by simp) x σ' H3 im (SH.mono sH3) _ fun σ3 S3 w3 => ?_
    have w3' : wipe σ3 [3, 4] = wipe σ2 [3, 4] := w3.trans wP
    have hv3 : σ3[2]? = some (some (V.ref p0)) := by rw [wipe_get w3' (by decide)]; exact hv
    have hq3 : H3 p0 = some (.lst (qs.map V.ref)) := s4 _ _ hqs
    have hql : qs.length = i + 1 := by
      rw [Paired.length LLq, List.length_take, run_len]; omega
    obtain ⟨qi, hqi, hli⟩ := paired_get (LLq.mono s4) (i := i) (y := xi) (by rw [List.getElem?_take, if_pos (by omega)]; exact r1)
    -- found.append(done(found[-1], single, ..))
    refine wss_one (we_append (we_name 2 hv3 ⟨p0, rfl, ⟨_, hq3⟩, we_call DD.df hr (wa_cons (we_ixL (we_name 2 hv3 (we_pu S3 (pu_neg pu_int) fun z H4 s5 a5 => ?_))))⟩))
    cases a5
    refine ⟨p0, qs.map V.ref, -1, V.ref qi, rfl, rfl, s5 _ _ hq3, atI_last ?_, ?_⟩
    · rw [List.getLast?_map, List.getLast?_eq_getElem?, show qs.length - 1 = i by omega, hqi]; rfl
    · refine wa_cons (we_pu (S3.mono s5) (pu_var 4) fun v5 H5 s6 a6 => wa_cons (we_pu (S3.mono (s5.trans s6)) (r := .d (if e.sev then .int (i : Nat) else .none)) (pu_if (pu_val (pu_call DV.df (hr.mono (by decide)) (pua_cons (pu_var 1) pua_nil) ⟨e, hz, rfl, rfl⟩)) (fun h => by rw [h]; exact pu_var 3) fun h => by rw [h]; exact pu_non) fun v6 H6 s7 a7 => wa_nil fun E' => ?_))
      refine ⟨[.l (xi.map eTI), .d (eE ei), .d (if e.sev then .int (i : Nat) else .none)], _, .cons ⟨qi, rfl, hli.mono ((s5.trans s6).trans s7)⟩ (.cons (a6.mono s7) (.cons a7 .nil)), ⟨xi, ei, _, r2, r3, rfl, rfl⟩, fun pn H7 nn s8 l8 => ?_⟩
      have s37 : Same H3 H7 := ((s5.trans s6).trans s7).trans s8
      have n3 : H3 pn = none := ((s5.trans s6).trans s7).free nn
      have hq7 := s37 _ _ hq3
      have hpn : pn ≠ p0 := fun z => by subst z; rw [hq3] at n3; cases n3
      refine ⟨qs.map V.ref, hq7, by rw [List.length_map]; have : sizeLine ≥ 100 := by decide
                                    omega, ?_, ?_, qs ++ [pn], by rw [upd_same, List.map_append]; rfl, ?_, ?_⟩
      · exact xP.trans ((SameX.of (s4.trans s37)).trans .upd)
      · exact w3'
      · have e1 : (run (gr l) e.sgl).take (i + 1 + 1) = (run (gr l) e.sgl).take (i + 1) ++ [app xi ei] := by
          have h1 : i + 1 < (run (gr l) e.sgl).length := by rw [run_len]; omega
          rw [List.take_succ_eq_append_getElem h1]
          rw [List.getElem?_eq_getElem h1] at r4
          rw [Option.some.inj r4]
        rw [e1]
        have up : ∀ (q : Addr) (ds : List PyData), q ≠ p0 → Ls H7 q ds → Ls (upd H7 p0 (.lst (qs.map V.ref ++ [V.ref pn]))) q ds := fun q ds hn ⟨us, g1, g2⟩ => ⟨us, by rw [upd_ne hn]; exact g1, g2.mono (.mut hq7 fun _ z => nomatch z)⟩
        refine paired_append ?_ (.cons (up _ _ hpn l8) .nil)
        have LL7 := (LLq.mono s4).mono s37
        have : ∀ {as : List Addr} {ls : List (List Itm)}, LL H7 as ls → (∀ x ∈ as, x ≠ p0) → LL (upd H7 p0 (.lst (qs.map V.ref ++ [V.ref pn]))) as ls := by
          intro as ls h
          induction h with
          | nil => intro _; exact .nil
          | cons a b ih => intro hm; exact .cons (up _ _ (hm _ (by simp)) a) (ih fun x hx => hm x (by simp [hx]))
        exact this LL7 fun x hx => (fr x hx).2
      · intro x hx
        rcases List.mem_append.mp hx with h | h
        · exact fr x h
        · rw [List.mem_singleton.mp h]
          exact ⟨(sH3).free n3, hpn⟩
  · obtain ⟨xP, wP, qs, hqs, LLq, fr⟩ := hP
    have hv3 : σ'[2]? = some (some (V.ref p0)) := by rw [wipe_get wP (by decide)]; exact hv
    refine wss_one (ws_retW (we_name 2 hv3 (q p0 qs H' n0 (xP.base sB n0) hqs ?_ fun x hx => (fr x hx).1)))
    have e1 : (run (gr l) e.sgl).take ((((e.sgl.map eE).zipIdx).map fun q => PyData.tuple [.int (q.2 : Nat), q.1]).length + 1) = run (gr l) e.sgl := by
      apply List.take_of_length_le
      rw [run_len]; simp
    rw [e1] at LLq
    exact LLq
end
end K47
/-! P11: edited, back, inverse -/
namespace K47
open PySem PySem.Spec PyProof.Rows L2
section
variable {P : Program} {w : World} {K : PySem.W.Frag} {mg : Str → Option Value} {base : Heap}
def rEdd : List Rs → List PyData → Prop := fun as r => ∃ (l : List Itm) (e : Fe), as = [.l (l.map eTI), .d (eF e)] ∧ VS l ∧ e.sgl.length ≤ 20 ∧ Cans (gr l) e.sgl ∧ r = (fin (gr l) e.sgl).map eTI
theorem sc_46 : FnScope ["shape", "edit"] ["shape", "edit"] (defScope (top 46)) := ⟨rfl, rfl, rfl, by decide +kernel, rfl, by decide +kernel, by decide +kernel⟩
theorem ok_edited (M : Mg mg) (S : Stands K mg "edited" 46) (DT : Df0 P w K mg base "states" 6 spSt) : Df0 P w K mg base "edited" 7 (spN rEdd) := by
  refine mk_pun S sc_46 (fun as r h => by obtain ⟨l, e, rfl, _⟩ := h; rfl) (fun _ _ _ _ _ _ us hl => match us, hl with | [_, _], _ => rfl) fun f cdv A outer s H E hr as r h => ?_
  obtain ⟨l, e, rfl, VV, hz, hc, rfl⟩ := h
  intro σ H0 S0 D q
  refine wss_one (ws_retW (we_ixL (we_call DT.df hr (wa_cons (we_pu S0 (pu_var 0) fun v1 H1 s1 a1 => wa_cons (we_pu (S0.mono s1) (pu_var 1) fun v2 H2 s2 a2 => wa_nil fun E' => ?_))))))
  refine ⟨l, e, .cons (a1.mono s2) (.cons a2 .nil), VV, hz, hc, fun p qs H3 n3 s3 hp hLL fr => ?_⟩
  have s03 := (s1.trans s2).trans s3
  refine we_pu (S0.mono s03) (pu_neg pu_int) fun z H4 s4 a4 => ?_
  cases a4
  obtain ⟨ql, h1, h2⟩ := paired_get hLL (run_last e.sgl (gr l))
  refine ⟨p, qs.map V.ref, -1, V.ref ql, rfl, rfl, s4 _ _ hp, atI_last ?_, q ql H4 ((s1.trans s2).free (fr ql (List.mem_of_getElem? h1))) (s03.trans s4) (h2.mono s4)⟩
  have hl : qs.length = e.sgl.length + 1 := by rw [Paired.length hLL, run_len]
  rw [List.getLast?_map, List.getLast?_eq_getElem?, show qs.length - 1 = e.sgl.length by omega, h1]; rfl
/-! ### back -/
def rBack : List Rs → Rs → Prop := fun as r => ∃ (l : List Itm) (e : Ed), VS l ∧ Can l e ∧ as = [.l (l.map eTI), .d (eE e)] ∧ r = .d (eE (backE l e))
theorem sc_47 : FnScope ["shape", "edit", "word"] ["shape", "edit"] (defScope (top 47)) := ⟨rfl, rfl, rfl, by decide +kernel, rfl, by decide +kernel, by decide +kernel⟩
theorem lkT_lkh {l : List Itm} {s : Sim} (h : s ∈ l.map (·.1)) : lkT l s = some (lkh l s) := by
  cases e : lkT l s with
  | none => exact absurd h (lk_none.mp e)
  | some v => unfold lkh; rw [e]; rfl
theorem ok_back (M : Mg mg) (S : Stands K mg "back" 47) : Df0 P w K mg base "back" 1 (spU rBack) := by
  refine mk_pu S sc_47 (fun as r h => by obtain ⟨l, e, _, _, rfl, _⟩ := h; rfl) (fun _ _ _ _ _ _ us hl => match us, hl with | [_, _], _ => rfl) fun f cdv A outer s H E hr as r h => ?_
  obtain ⟨l, e, VV, hc, rfl, rfl⟩ := h
  have hu1 : (A.deeper (envOfC "back" (defScope (top 47)) s.heap.objs.size f cdv)).units + 1 < cLine := by have := hr.un; omega
  have hu2 : (A.deeper (envOfC "back" (defScope (top 47)) s.heap.objs.size f cdv)).units + 100 < cLine := by have := hr.un; omega
  cases e with
  | ad t h => exact go_if (b := true) ((put_cmp op_eq rv_eqS (by rfl) (pu_ixT (pu_var 1) pu_int (atI_nat' (n := 0) rfl rfl)) pu_str).to (by rw [w_aa])) (fun _ => go_ret ((pu_tup (ds := [.str "take", eS t]) (pua_cons pu_str (pua_cons (pu_ixT (pu_var 1) pu_int (atI_nat' (n := 1) rfl rfl)) pua_nil)) (by simp)).to rfl)) (fun h => nomatch h)
  | ht t h =>
    refine go_if (b := false) ((put_cmp op_eq rv_eqS (by rfl) (pu_ixT (pu_var 1) pu_int (atI_nat' (n := 0) rfl rfl)) pu_str).to (by rw [w_ha])) (fun h => nomatch h) (fun _ => ?_)
    refine go_set 2 sc_47.nd (pu_if (k := true) ((put_cmp op_eq rv_eqS (by rfl) (pu_ixT (pu_var 1) pu_int (atI_nat' (n := 0) rfl rfl)) pu_str).to (by rw [w_hh])) (fun _ => pu_str) (fun h => nomatch h)) ?_
    exact go_ret ((pu_tup (ds := [.str "height", eS t, .int (lkh l t)]) (pua_cons (pu_var 2) (pua_cons (pu_ixT (pu_var 1) pu_int (atI_nat' (n := 1) rfl rfl)) (pua_cons (pu_getT hu1 (pu_dictT (kvs := l) M rfl hu2 (pu_var 0) VV.nd) (pu_ixT (pu_var 1) pu_int (atI_nat' (n := 1) rfl rfl)) (lkT_lkh hc.1)) pua_nil))) (by simp)).to rfl)
  | tk t =>
    refine go_if (b := false) ((put_cmp op_eq rv_eqS (by rfl) (pu_ixT (pu_var 1) pu_int (atI_nat' (n := 0) rfl rfl)) pu_str).to (by rw [w_ta])) (fun h => nomatch h) (fun _ => ?_)
    refine go_set 2 sc_47.nd (pu_if (k := false) ((put_cmp op_eq rv_eqS (by rfl) (pu_ixT (pu_var 1) pu_int (atI_nat' (n := 0) rfl rfl)) pu_str).to (by rw [w_th])) (fun h => nomatch h) (fun _ => pu_str)) ?_
    exact go_ret ((pu_tup (ds := [.str "add", eS t, .int (lkh l t)]) (pua_cons (pu_var 2) (pua_cons (pu_ixT (pu_var 1) pu_int (atI_nat' (n := 1) rfl rfl)) (pua_cons (pu_getT hu1 (pu_dictT (kvs := l) M rfl hu2 (pu_var 0) VV.nd) (pu_ixT (pu_var 1) pu_int (atI_nat' (n := 1) rfl rfl)) (lkT_lkh hc.1)) pua_nil))) (by simp)).to rfl)
end
end K47
/-! P12: inverse -/
namespace K47
open PySem PySem.Spec PyProof.Rows L2
/-- the collecting part of a comprehension without test, over anything -/
theorem lc_goR {X : Cx} {Γ : Gm} {elt : Expr} {scope : Scope} {α : Type} {xs : List α} {J : It} {G : Hp → Prop} {Y : Nat → Hp → V → Hp → Prop} {g : TG} {vs : List Nat} {σ : L2.St} {H H1 : Hp} {Q : VK} (Rl : α → Hp → V → Prop) (f : α → PyData) (γ : α → Gm) (wk : Walk J xs.length G Y) (hz : xs.length ≤ 100000)
    (s1 : Same H H1) (S1 : Sl H1 σ Γ) (hG : ∀ H2, Same H1 H2 → G H2) (hY : ∀ (i : Nat) (H2 : Hp) (v : V) (H3 : Hp), i < xs.length → Same H1 H2 → Y i H2 v H3 → Same H2 H3 ∧ ∃ x, xs[i]? = some x ∧ Rl x H3 v) (hv : ∀ i ∈ vs, ∀ r, Γ[i]? ≠ some (some r))
    (hgd : ∀ x ∈ xs, ∀ (v : V) (σ : L2.St) (H : Hp), Rl x H v → Sl H σ Γ → ∀ Q : L2.St → Hp → Prop, (∀ σ', Sl H σ' (γ x) → wipe σ' vs = wipe σ vs → Q σ' H) → g v σ H Q)
    (he : ∀ x ∈ xs, ∀ s H C cl fp, Pu (Blk X scope s H C cl fp) (γ x) elt (.d (f x))) (q : ∀ p H', H p = none → Same H H' → Ls H' p (xs.map f) → Q (.ref p) H') :
    ∀ D, H1 D = none → ∃ W : Nat → Nat → Hp → Prop, (∃ m, W 0 m (upd H1 D (.lst []))) ∧ ∀ i m H, W i m H →
      (J.stop i H ∧ Q (.ref D) H) ∨ (J.go i H ∧ ∃ Nx : Hp → Prop, (∀ H', Nx H' → ∃ m', m' < m ∧ W (i + 1) m' H') ∧ ∀ x H', J.yld i H x H' → g x (wipe σ vs) H' fun σ2 H2 => wipe σ2 vs = wipe σ vs ∧ ttOf X scope [] σ2 H2 fun b H3 =>
        if b = true then teOf X scope elt σ2 H3 fun y H4 => ∃ acc, H4 D = some (.lst acc) ∧ acc.length < sizeLine ∧ Nx (upd H4 D (.lst (acc ++ [y]))) else Nx H3) := by
  intro D hD
  refine lc_it (g := g) (tt := ttOf X scope []) (te := teOf X scope elt) (vs := vs) (σ := σ) (H1 := H1) (D := D) (Qd := fun H => Q (.ref D) H) wk (fun i H' => Same H1 H' ∧ H1 D = none ∧ Ls H' D ((xs.take i).map f)) ⟨same_new hD, hD, [], upd_same, .nil⟩ (fun i H' _ p => hG H' p.1) ?_ ?_
  · intro i x H2 H3 hi ⟨s2, _, us, hus, al⟩ y
    obtain ⟨s3, d, hd, im⟩ := hY i H2 x H3 hi s2 y
    have hm : d ∈ xs := List.mem_of_getElem? hd
    refine hgd d hm x _ H3 im ((S1.mono (s2.trans s3)).wipe hv) _ fun σ2 S2 w2 => ⟨by rw [w2]; exact wipe_wipe σ _, ?_⟩
    intro s0 H0 C cl fp
    refine (PuTs.nil (X := Blk X scope s0 H0 C cl fp) (Γ := γ d)).wts σ2 H3 S2 _ fun H4 s4 => ?_
    rw [if_pos rfl]
    intro s0 H0 C cl fp
    refine he d hm s0 H0 C cl fp σ2 H4 (S2.mono s4) _ fun v H5 s5 a5 => ?_
    have s25 : Same H2 H5 := s3.trans (s4.trans s5)
    have hD5 := s25 _ _ hus
    have hl : us.length ≤ 100000 := by
      rw [al.length, List.length_map, List.length_take]; omega
    have tx : Tx H5 (upd H5 D (.lst (us ++ [v]))) := .mut hD5 fun _ z => by cases z
    refine ⟨us, hD5, Nat.lt_of_le_of_lt hl (by decide), fun a o e => ?_, hD, us ++ [v], upd_same, ?_⟩
    · rw [upd_ne (ne_of_none e hD)]; exact (s2.trans s25) a o e
    · have e1 : xs.take (i + 1) = xs.take i ++ [d] := by
        obtain ⟨h1, h2⟩ := List.getElem?_eq_some_iff.mp hd
        rw [List.take_succ_eq_append_getElem h1, h2]
      rw [e1, List.map_append]
      exact ((al.mono (.of s25)).append (.cons a5 .nil)).mono tx
  · intro H' ⟨s2, _, ls⟩
    rw [List.take_length] at ls
    exact q D H' (s1.free hD) (s1.trans s2) ls
def Fe.inv (l : List Itm) : Fe → Fe
  | .one e => .one (backE l e)
  | .all es => .all (backs l es).reverse
section
variable {P : Program} {w : World} {K : PySem.W.Frag} {mg : Str → Option Value} {base : Heap}
def rInv : List Rs → Rs → Prop := fun as r => ∃ (l : List Itm) (e : Fe), VS l ∧ e.sgl.length ≤ 20 ∧ Cans (gr l) e.sgl ∧ as = [.l (l.map eTI), .d (eF e)] ∧ r = .d (eF (e.inv (gr l)))
theorem sc_48 : FnScope ["shape", "edit", "found", "state", "single"] ["shape", "edit"] (defScope (top 48)) := ⟨rfl, rfl, rfl, by decide +kernel, rfl, by decide +kernel, by decide +kernel⟩
theorem ok_inverse (M : Mg mg) (S : Stands K mg "inverse" 48) (DT : Df0 P w K mg base "states" 6 spSt) (DS : Df0 P w K mg base "singles" 2 (spN rSgl)) (DB : Df0 P w K mg base "back" 1 (spU rBack)) (DV : Df0 P w K mg base "is_several" 1 (spU rSev)) : Df0 P w K mg base "inverse" 7 (spU rInv) := by
  refine mk_pu S sc_48 (fun as r h => by obtain ⟨l, e, _, _, _, rfl, _⟩ := h; rfl) (fun _ _ _ _ _ _ us hl => match us, hl with | [_, _], _ => rfl) fun f cdv A outer s H E hr as r h => ?_
  obtain ⟨l, e, VV, hz, hc, rfl, rfl⟩ := h
  have VG := VV.gr
  -- the pairs walked: place i gives the i-th state and the i-th single
  have hbl := backs_len e.sgl (gr l)
  refine go_setLc 2 (ds := (backs (gr l) e.sgl).map eE) ?_ ?_
  · refine LcD.to (ds := (List.range e.sgl.length).map fun i => eE ((backs (gr l) e.sgl).getD i (.tk []))) ?_ ?_
    · refine ⟨_, g2 K 3 4, [("state", 3), ("single", 4)], rfl, sc_48.nd, pi_zip rfl M.zip pa_wa, blkOk_by (N := ["shape", "edit", "found", "state", "single"]) (sc := defScope (top 48)) (by decide +kernel), fun _ _ _ _ _ => pg_2 3 4 sc_48.nd, by intro _; rfl, fun σ H1 S1 Q q => ?_⟩
      refine wa_cons (we_call DT.df hr (wa_cons (we_pu S1 (pu_var 0) fun v1 H2 s2 a2 => wa_cons (we_pu (S1.mono s2) (pu_var 1) fun v2 H3 s3 a3 => wa_nil fun E' => ?_))))
      refine ⟨l, e, .cons (a2.mono s3) (.cons a3 .nil), VV, hz, hc, fun p qs H4 n4 s4 hp hLL fr => ?_⟩
      have s14 := (s2.trans s3).trans s4
      refine wa_cons (we_puN (S1.mono s14) (pun_call DS.df (hr.mono (by decide)) (pua_cons (pu_var 1) pua_nil) ⟨e, hz, rfl, rfl⟩) fun p5 H5 n5 s5 l5 => wa_nil ?_)
      obtain ⟨ys, hys, al⟩ := l5
      have hyl : ys.length = e.sgl.length := by rw [al.length, List.length_map]
      have hql : qs.length = e.sgl.length + 1 := by rw [Paired.length hLL, run_len]
      have hp5 := s5 _ _ hp
      refine ⟨p, p5, qs.map V.ref, ys, rfl, SqL.of hp5, SqL.of hys, ?_⟩
      refine lc_goR (xs := List.range e.sgl.length) (fun i H v => ∃ (x : List Itm) (ei : Ed) (T q : Addr) (y : V), v = .ref T ∧ H T = some (.tup [.ref q, y]) ∧ Ls H q (x.map eTI) ∧ Im H y (eE ei) ∧ e.sgl[i]? = some ei ∧ (run (gr l) e.sgl)[i]? = some x) (fun i => eE ((backs (gr l) e.sgl).getD i (.tk [])))
        (fun i => [some (.l (l.map eTI)), some (.d (eF e)), none, some (.l (((run (gr l) e.sgl).getD i []).map eTI)), some (.d (eE (e.sgl.getD i (.tk []))))]) (walk_zip (K := K) (a := p) (b := p5) (xs := qs.map V.ref) (ys := ys) (by rw [List.length_range, List.length_map, hql, hyl]; omega)) (by simp; omega) (s14.trans s5) (S1.mono (s14.trans s5))
        (fun H6 s6 => ⟨SqL.of (s6 _ _ hp5), SqL.of (s6 _ _ hys)⟩) ?_ ?_ ?_ ?_ q
      · intro i H6 v H7 hi s6 hy
        rw [List.length_range] at hi
        obtain ⟨T, x1, x2, rfl, hT, rfl, e1, e2⟩ := hy
        obtain ⟨ei, hei⟩ : ∃ ei, e.sgl[i]? = some ei := ⟨_, List.getElem?_eq_getElem hi⟩
        obtain ⟨xi, r1, r2, r3, r4⟩ := run_at e.sgl (gr l) VG hc i ei hei
        obtain ⟨qi, hqi, hli⟩ := paired_get hLL r1
        have e1 : (qs.map V.ref)[i]? = some x1 := e1
        rw [List.getElem?_map, hqi] at e1
        cases e1
        obtain ⟨d, h1, h2⟩ := al.get' e2
        rw [List.getElem?_map, hei] at h1
        cases h1
        exact ⟨same_new hT, i, by simp [hi], xi, ei, T, qi, x2, rfl, upd_same, ((hli.mono s5).mono s6).mono (same_new hT), (h2.mono (.of s6)).mono (.new hT), hei, r1⟩
      · intro i hi r; simp at hi; rcases hi with rfl | rfl <;> simp
      · intro i hi v σ' H' ⟨x, ei, T, q', y, hv, hT, hx, hy, h1, h2⟩ S' Q' hQ
        subst hv
        refine ⟨T, [.ref q', y], rfl, SqT.of hT, rfl, .ref q', [y], rfl, y, [], rfl, rfl, hQ _ ?_ ?_⟩
        · have e3 : (run (gr l) e.sgl).getD i [] = x := by rw [List.getD_eq_getElem?_getD, h2]; rfl
          have e4 : e.sgl.getD i (.tk []) = ei := by rw [List.getD_eq_getElem?_getD, h1]; rfl
          rw [e3, e4]
          exact ((S'.set 3 (r := .l (x.map eTI)) ⟨q', rfl, hx⟩).set 4 (r := .d (eE ei)) hy)
        · rw [wipe_set (by simp), wipe_set (by simp)]
      · intro i hi s' H' C cl fp
        rw [List.mem_range] at hi
        obtain ⟨ei, hei⟩ : ∃ ei, e.sgl[i]? = some ei := ⟨_, List.getElem?_eq_getElem hi⟩
        obtain ⟨xi, r1, r2, r3, r4⟩ := run_at e.sgl (gr l) VG hc i ei hei
        have e3 : (run (gr l) e.sgl).getD i [] = xi := by rw [List.getD_eq_getElem?_getD, r1]; rfl
        have e4 : e.sgl.getD i (.tk []) = ei := by rw [List.getD_eq_getElem?_getD, hei]; rfl
        have e5 : (backs (gr l) e.sgl).getD i (.tk []) = backE xi ei := by rw [List.getD_eq_getElem?_getD, backs_at e.sgl (gr l) i ei xi hei r1]; rfl
        rw [e3, e4, e5]
        exact pu_call DB.df (hr.mono (by decide)) (pua_cons (pu_var 3) (pua_cons (pu_var 4) pua_nil)) ⟨xi, ei, r2, r3, rfl, rfl⟩
    · apply List.ext_getElem
      · simp [hbl]
      · intro i h1 h2
        simp at h1 h2 ⊢
        rw [List.getElem?_eq_getElem h2]; rfl
  · refine go_ret (pu_if (pu_val (pu_call DV.df (hr.mono (by decide)) (pua_cons (pu_var 1) pua_nil) ⟨e, hz, rfl, rfl⟩)) (fun h => ?_) fun h => ?_)
    · cases e with
      | one e => cases h
      | all es => exact (pu_tup (ds := [.str "all", .tuple ((backs (gr l) es).map eE).reverse]) (pua_cons pu_str (pua_cons (pu_tuple M (pun_rev (pu_var 2)).pu) pua_nil)) (by simp)).to (by simp [Fe.inv, eF])
    · cases e with
      | one e => exact pu_ixL (pu_var 2) pu_int (atI_nat' (n := 0) rfl rfl)
      | all es => cases h
end
end K47
/-! P13: can_follow, can_swap, exchanged -/
namespace K47
open PySem PySem.Spec PyProof.Rows L2
theorem pu_disp2 {X : Cx} {Γ : Gm} {pos : Pos} {a b c d : Expr} {i j u v : Int} (ha : Pu X Γ a (.d (.int i))) (hc : Pu X Γ c (.d (.int u))) (hb : Pu X Γ b (.d (.int j))) (hd : Pu X Γ d (.d (.int v))) (hij : i ≠ j) :
    Pu X Γ (.Dict [some a, some b] [c, d] pos) (.k [(i, u), (j, v)]) := fun σ H S Q q => by
  refine we_of (pe_disp (pps_cons pe_we pe_we (pps_cons pe_we pe_we pps_nil)) rfl rfl (by simp) (by simp)) fun p hp => ?_
  have s0 : Same H (upd H p (.dK [])) := same_new hp
  refine ha σ _ (S.mono s0) _ fun x1 H1 s1 a1 => hc σ H1 (S.mono (s0.trans s1)) _ fun y1 H2 s2 b1 => hb σ H2 (S.mono ((s0.trans s1).trans s2)) _ fun x2 H3 s3 a2 => hd σ H3 (S.mono (((s0.trans s1).trans s2).trans s3)) _ fun y2 H4 s4 b2 => ?_
  have s14 := ((s1.trans s2).trans s3).trans s4
  have h4 : H4 p = some (.dK []) := s14 _ _ upd_same
  cases a1; cases b1; cases a2; cases b2
  refine ⟨h4, [(Sum.inl i, .int u), (Sum.inl j, .int v)], rfl, by simp, q _ _ (fun w o e => ?_) ⟨p, rfl, .inl ?_⟩⟩
  · have hw : w ≠ p := fun z => by subst z; rw [hp] at e; cases e
    rw [upd_ne hw]
    exact s14 w o (by rw [upd_ne hw]; exact e)
  · rw [upd_same]
    have e : mergeK [] [((Sum.inl i : L2.Key), V.int u), (Sum.inl j, V.int v)] = encK [(i, u), (j, v)] := by
      have hij' : (Sum.inl i : L2.Key) ≠ Sum.inl j := fun z => hij (Sum.inl.inj z)
      simp [mergeK, putK, encK, hij', hij]
    rw [e]
section
variable {P : Program} {w : World} {K : PySem.W.Frag} {mg : Str → Option Value} {base : Heap}
/-- a simplex that may follow -/
def Fol (os : List Sim) (s : Sim) : Prop := os.length < 60 ∧ Sx s ∧ s ∉ os ∧ ∀ f ∈ fc s, f ∈ os
def rFol : List Rs → Rs → Prop := fun as r => ∃ (os : List Sim) (s : Sim), Fol os s ∧ as = [.l (os.map eS), .d (eS s)] ∧ r = .d (.bool true)
theorem sc_50 : FnScope ["order", "simplex", "face"] ["order", "simplex"] (defScope (top 50)) := ⟨rfl, rfl, rfl, by decide +kernel, rfl, by decide +kernel, by decide +kernel⟩
theorem ok_can_follow (M : Mg mg) (S : Stands K mg "can_follow" 50) (DS : Df0 P w K mg base "is_simplex" 2 (spU rSimp)) (DF : Df0 P w K mg base "faces_of" 1 (spN rFac)) : Df0 P w K mg base "can_follow" 3 (spU rFol) := by
  refine mk_pu S sc_50 (fun as r h => by obtain ⟨i, _, _, rfl, _⟩ := h; rfl) (fun _ _ _ _ _ _ us hl => match us, hl with | [_, _], _ => rfl) fun f cdv A outer s H E hr as r h => ?_
  obtain ⟨os, t, ⟨h1, h2, h3, h4⟩, rfl, rfl⟩ := h
  have hu : (A.deeper (envOfC "can_follow" (defScope (top 50)) s.heap.objs.size f cdv)).units + 65 < cLine := by have := hr.un; omega
  refine go_if (b := false) ((PuB.t (pub_or (put_cmp op_ge rv_ge (by rfl) (pu_lenL M (pu_var 0)) (pu_gint M.sm)) fun _ => pub_or (put_not (pu_val (pu_call DS.df hr (pua_cons (pu_var 1) pua_nil) ⟨t, h2, rfl, rfl⟩))) fun _ => pub_or1 (put_cmp (op_inD hu) (rv_inD (sh_S t) (sh_Ss os)) (by rfl) (pu_var 1) (pu_var 0)))).to ?_) (fun h => nomatch h) fun _ => ?_
  · rw [any_S]; simp [h3]; omega
  · refine go_ret ((pu_all (bs := (fc t).map fun f => decide (f ∈ os)) M rfl ((lcd1a (xs := fc t) (enc := eS) ["order", "simplex", "face"] (defScope (top 50)) 2 (fun f => .bool (decide (f ∈ os))) (src_list (pun_call DF.df (hr.mono (by decide)) (pua_cons (pu_var 1) pua_nil) ⟨t, h2, rfl, rfl⟩).pu) sc_50.nd (by have := fc_len (s := t); omega)
      (fun f _ _ _ _ _ _ => (pu_cmp (op_inD hu) (rv_inD (sh_S f) (sh_Ss os)) (by rfl) (pu_var 2) (pu_var 0)).to (by rw [any_S]))).to map_bools).pun.pu).to ?_)
    congr 2
    simp only [List.all_map, List.all_eq_true, Function.comp, id, decide_eq_true_eq]
    exact h4
def rSwp : List Rs → Rs → Prop := fun as r => ∃ (os : List Sim) (n : Nat) (a b : Sim), os[n]? = some a ∧ os[n + 1]? = some b ∧ Sx b ∧ a ∉ fc b ∧ as = [.l (os.map eS), .d (.int (n : Nat))] ∧ r = .d (.bool true)
theorem sc_51 : FnScope ["order", "place"] ["order", "place"] (defScope (top 51)) := ⟨rfl, rfl, rfl, by decide +kernel, rfl, by decide +kernel, by decide +kernel⟩
theorem ok_can_swap (M : Mg mg) (S : Stands K mg "can_swap" 51) (DN : Df0 P w K mg base "is_number" 1 (spU rNum)) (DF : Df0 P w K mg base "faces_of" 1 (spN rFac)) : Df0 P w K mg base "can_swap" 2 (spU rSwp) := by
  refine mk_pu S sc_51 (fun as r h => by obtain ⟨_, _, _, _, _, _, _, _, rfl, _⟩ := h; rfl) (fun _ _ _ _ _ _ us hl => match us, hl with | [_, _], _ => rfl) fun f cdv A outer s H E hr as r h => ?_
  obtain ⟨os, n, a, b, ha, hb, hsx, hn, rfl, rfl⟩ := h
  have hu : (A.deeper (envOfC "can_swap" (defScope (top 51)) s.heap.objs.size f cdv)).units + 65 < cLine := by have := hr.un; omega
  have hl : n + 1 < os.length := (List.getElem?_eq_some_iff.mp hb).1
  refine go_ret ((pu_and (pu_call DN.df hr (pua_cons (pu_var 1) (pua_cons pu_int (pua_cons (pu_sub (pu_lenL M (pu_var 0)) pu_int) pua_nil))) ⟨_, _, _, rfl, rfl⟩) fun _ => pu_one (pu_cmp (op_notInD hu) (rv_ninD (sh_S a) (sh_Ss (fc b))) (by rfl) (pu_ixL (pu_var 0) (pu_var 1) (atI_nat' (n := n) (by rw [List.getElem?_map, ha]; rfl) rfl))
    (pun_call DF.df hr (pua_cons (pu_ixL (pu_var 0) (pu_add (pu_var 1) pu_int) (atI_nat' (n := n + 1) (by rw [List.getElem?_map, hb]; rfl) (by omega))) pua_nil) ⟨b, hsx, rfl, rfl⟩).pu)).to ?_)
  rw [any_S]
  congr 2
  simp [hn]; omega
/-- the exchange of two neighbours -/
def swp (p : Int) (x : Int) : Int := if x = p then p + 1 else if x = p + 1 then p else x
def exc (c : List Int) (p : Int) : List Int := (c.map (swp p)).mergeSort (fun x y => decide (x ≤ y))
def rExc : List Rs → Rs → Prop := fun as r => ∃ (c : List Int) (p : Int), c.length ≤ 10000 ∧ as = [.d (eS c), .d (.int p)] ∧ r = .d (eS (exc c p))
theorem sc_52 : FnScope ["chain", "place", "other", "position"] ["chain", "place"] (defScope (top 52)) := ⟨rfl, rfl, rfl, by decide +kernel, rfl, by decide +kernel, by decide +kernel⟩
theorem ok_exchanged (M : Mg mg) (S : Stands K mg "exchanged" 52) : Df0 P w K mg base "exchanged" 1 (spU rExc) := by
  refine mk_pu S sc_52 (fun as r h => by obtain ⟨_, _, _, rfl, _⟩ := h; rfl) (fun _ _ _ _ _ _ us hl => match us, hl with | [_, _], _ => rfl) fun f cdv A outer s H E hr as r h => ?_
  obtain ⟨c, p, hz, rfl, rfl⟩ := h
  have hu1 : (A.deeper (envOfC "exchanged" (defScope (top 52)) s.heap.objs.size f cdv)).units + 1 < cLine := by have := hr.un; omega
  refine go_set 2 sc_52.nd (pu_disp2 (pu_var 1) (pu_add (pu_var 1) pu_int) (pu_add (pu_var 1) pu_int) (pu_var 1) (by omega)) ?_
  refine go_ret (pu_tuple M (pun_sortedI M ((lcd1a (xs := c) (enc := PyData.int) ["chain", "place", "other", "position"] (defScope (top 52)) 3 (fun x => .int (swp p x)) (src_tup (pu_var 0)) sc_52.nd (by omega) (fun x _ _ _ _ _ _ => (pu_get2K hu1 (pu_var 2) (pu_var 3) (pu_var 3)).to ?_)).to (ds' := (c.map (swp p)).map .int) (by simp)).pun.pu (insort_ints _ _ rfl)).pu)
  congr 2
  unfold swp lkK
  by_cases h1 : x = p
  · subst h1; simp
  · have h1' : ¬ p = x := fun e => h1 e.symm
    by_cases h2 : x = p + 1
    · subst h2; simp [List.find?_cons, h1', h1]
    · have h2' : ¬ p + 1 = x := fun e => h2 e.symm
      simp [List.find?_cons, h1, h2, h1', h2']
end
end K47
/-! C0: fields, methods, items stored, lists shortened; the rule for a method. -/
namespace K47
open PySem PySem.Spec PyProof.Rows L2
section
variable {X : Cx} {Γ : Gm} {σ : L2.St} {H : Hp} {e o i v : Expr} {es : List Expr} {pos p apos cpos pos' tpos : Pos} {Q : VK} {D : Ends} {f m : Str} {k : Nat} {sp : Sp} {C : Addr}
theorem pu_b1 {r s : Rs} (h : Pu X Γ e (.b r s)) : Pu X Γ e r := fun σ H S Q q => h σ H S Q fun v H' s' a => q v H' s' a.1
theorem pu_b2 {r s : Rs} (h : Pu X Γ e (.b r s)) : Pu X Γ e s := fun σ H S Q q => h σ H S Q fun v H' s' a => q v H' s' a.2
theorem we_fld (h : WE X o σ H fun u H1 => ∃ a C dx fs v, u = .ref a ∧ H1 a = some (.ins C dx fs) ∧ Cls X.K C ∧ NoAttr X.K C f ∧ fs.lookup f = some v ∧ Q v H1) (hb : attributeBase o f X.env (eval o X.env) = eval o X.env := by rfl) : WE X (.Attribute o f pos) σ H Q :=
  we_of (pe_fld pe_we hb) h
theorem pu_fld {r : Rs} (c : Cls X.K C) (n : NoAttr X.K C f) (h : Pu X Γ o (.f C f r)) (hb : attributeBase o f X.env (eval o X.env) = eval o X.env := by rfl) : Pu X Γ (.Attribute o f pos) r := fun σ H S Q q =>
  we_fld (h σ H S _ fun v H' s a => by
    obtain ⟨a, dx, fs, u, rfl, h1, h2, h3⟩ := a
    exact ⟨a, C, dx, fs, u, rfl, h1, c, n, h2, q u H' s h3⟩) hb
theorem ws_fld (h : WE X v σ H fun y H1 => WE X o σ H1 fun x H2 => ∃ a C dx fs, x = .ref a ∧ H2 a = some (.ins C dx fs) ∧ Cls X.K C ∧ NoAttr X.K C f ∧ fs.length < 1000 ∧ D.nx σ (upd H2 a (.ins C dx (putF f y fs))))
    (hs : swapsWith v (some (.Attribute o f pos')) pos.line X.env = pure false := by rfl) : WS X (.Assign [.Attribute o f pos'] v pos) D σ H := ws_of (ps_fld pe_we pe_we hs) h
/-- xs[i] = v -/
theorem ws_setL (h : WE X v σ H fun y H1 => WE X o σ H1 fun x H2 => WE X i σ H2 fun z H3 => ∃ q xs n j, x = .ref q ∧ z = .int n ∧ H3 q = some (.lst xs) ∧ ixN xs.length n = some j ∧ D.nx σ (upd H3 q (.lst (xs.set j y))))
    (hs : swapsWithSole [.Subscript o i pos'] v pos.line X.env = pure false := by rfl) (hw : swappedStores [.Subscript o i pos'] v X.env = pure none := by rfl) (h1 : (assignEach [.Subscript o i pos'] X.env).map (·.2) = [assign (.Subscript o i pos') X.env] := by rfl)
    (ha : ∀ v, assign (.Subscript o i pos') X.env v = (do
      let ov ← holding [v] (eval o X.env)
      let iv ← holding [v, ov] (eval i X.env)
      standAt pos'
      holding [v, ov, iv] (setItem ov iv v)
      release [v, ov, iv] []) := by intro _; rfl) : WS X (.Assign [.Subscript o i pos'] v pos) D σ H :=
  ws_of (ps_asg pe_we (pg_sub pe_we pe_we set_list ha) hs hw h1) (h.mono fun y H1 z => z.mono fun x H2 z => z.mono fun u H3 ⟨q, xs, n, j, e1, e2, e3, e4, e5⟩ => ⟨q, xs, n, j, e1, e2, e3, e4, e5⟩)
/-- d[i] = v, d a dict from ints -/
theorem ws_putD (hu : X.A.units + 1 < cLine) (h : WE X v σ H fun y H1 => WE X o σ H1 fun x H2 => WE X i σ H2 fun z H3 => ∃ a H4, x = .ref a ∧ DPut H3 a z y H4 ∧ D.nx σ H4)
    (hs : swapsWith v (some (.Subscript o i pos')) pos.line X.env = pure false := by rfl) : WS X (.Assign [.Subscript o i pos'] v pos) D σ H := ws_of (ps_dput hu pe_we pe_we pe_we hs) h
/-- xs.pop() -/
theorem we_pop (h : WE X o σ H fun u H1 => ∃ q xs y, u = .ref q ∧ H1 q = some (.lst xs) ∧ xs[xs.length - 1]? = some y ∧ Q y (upd H1 q (.lst xs.dropLast)))
    (hbase : attributeBase o "pop" X.env (eval o X.env) = eval o X.env := by rfl) (hline : (apos.endLine == cpos.line) = true := by rfl) : WE X (.Call (.Attribute o "pop" apos) [] [] cpos) σ H Q :=
  we_of (pe_bm0 PySem.F.plainAttrs_list PySem.F.slot_list_pop PySem.F.type_list_pop mt_pop pe_we hbase hline) (h.mono fun u H1 ⟨q, xs, y, e1, e2, e3, e4⟩ => by
    subst e1
    exact ⟨.inl ⟨rfl, xs, SqL.of e2⟩, q, xs, y, rfl, rfl, e2, e3, e4⟩)
/-- what is known of a method -/
structure Mt (P : Program) (w : World) (K : PySem.W.Frag) (mg : Str → Option Value) (base : Heap) (C : Addr) (m : Str) (k : Nat) (sp : Sp) : Prop where
  ex : ∃ (f : Addr) (fd : FuncData) (ps : List Str), FnOk P w K mg base CX0 k f fd ps sp ∧ Meth K C m f ∧ Binds K fd ps []
theorem we_meth (M : Mt X.prog X.w X.K X.mg X.base C m k sp) (c : Cls X.K C) (hr : Room k X.A) (h : WE X o σ H fun x H1 => ∃ a dx fs, x = .ref a ∧ H1 a = some (.ins C dx fs) ∧ fs.lookup m = none ∧ WA X (e :: es) σ H1 fun vs H2 => ∀ E, sp (x :: vs) H2 Q E) {pl : Sem Bool}
    (hst : starEach (e :: es) X.env = (false, eval e X.env) :: starEach es X.env := by rfl) (hpl : (backTo pos (starEach es X.env)).any (·.1) = false := by rfl)
    (ht : eval (.Call (.Attribute o m apos) (e :: es) [] pos) X.env = (do
      let ov ← eval o X.env
      standAt apos.atName
      let (f, first) ← holding [ov] (getMethod ov m pl)
      callWith pos f first (backTo pos (starEach (e :: es) X.env)) (backToKw pos (keywordEach [] X.env))) := by rfl) : WE X (.Call (.Attribute o m apos) (e :: es) [] pos) σ H Q := by
  obtain ⟨f, fd, ps, F, hm, hb⟩ := M.ex
  exact we_of (pe_meth (E := fun _ _ _ => True) pe_we c hm F hr hb .nil pass0 pa_wa hst hpl ht) (h.mono fun x H1 ⟨a, dx, fs, e1, e2, e3, z⟩ => ⟨a, dx, fs, e1, e2, e3, z.mono fun vs H2 y => by rw [List.append_nil]; exact y _⟩)
theorem we_meth0 (M : Mt X.prog X.w X.K X.mg X.base C m k sp) (c : Cls X.K C) (hr : Room k X.A) (h : WE X o σ H fun x H1 => ∃ a dx fs, x = .ref a ∧ H1 a = some (.ins C dx fs) ∧ fs.lookup m = none ∧ ∀ E, sp [x] H1 Q E) {pl : Sem Bool}
    (ht : eval (.Call (.Attribute o m apos) [] [] pos) X.env = (do
      let ov ← eval o X.env
      standAt apos.atName
      let (f, first) ← holding [ov] (getMethod ov m pl)
      callWith pos f first (backTo pos (starEach [] X.env)) (backToKw pos (keywordEach [] X.env))) := by rfl) : WE X (.Call (.Attribute o m apos) [] [] pos) σ H Q := by
  obtain ⟨f, fd, ps, F, hm, hb⟩ := M.ex
  exact we_of (pe_meth0 (E := fun _ _ _ => True) pe_we c hm F hr hb .nil pass0 ht) (h.mono fun x H1 ⟨a, dx, fs, e1, e2, e3, z⟩ => ⟨a, dx, fs, e1, e2, e3, z _⟩)
end
/-- a method stands in its class -/
def StandsM (K : PySem.W.Frag) (C : Addr) (x qual : Str) (c j : Nat) : Prop := ∃ f fd, FnT K x qual (inClass (top c) j) f fd ∧ Meth K C x f
section
variable {P : Program} {w : World} {K : PySem.W.Frag} {mg : Str → Option Value} {base : Heap}
/-- THE RULE for a method -/
theorem mk_meth {C : Addr} {x qual : Str} {c j : Nat} {N ps : List Str} {k : Nat} {sp : Sp} (S : StandsM K C x qual c j) (sc : FnScope N ps (defScope (inClass (top c) j))) (len : ∀ vs H Q E, sp vs H Q E → vs.length = ps.length)
    (hbind : ∀ (kV doc pm : Value) (an : Option Addr) (cdv ct : Value) (us : List Value), us.length = ps.length → bindArgs (PySem.W.fnOf x qual (defArgs (inClass (top c) j)) (defBody (inClass (top c) j)) (defScope (inClass (top c) j)) .none kV doc pm an cdv ct) ⟨us, []⟩ = pure (ps.zip us))
    (hbody : ∀ (f : Addr) (cdv : Value) (A : Around) (outer : List Env) (s : Shared) (H : Hp) (vs : List V) (Q : VK) (E : XK), Room k (A.deeper (envOfC qual (defScope (inClass (top c) j)) s.heap.objs.size f cdv)) → sp vs H Q E →
      WSs (cxOf CX0 P w K mg base N qual (defScope (inClass (top c) j)) f cdv A outer s H E).nox (defBody (inClass (top c) j)) { nx := fun _ H' => Q .non H', rt := Q } (L2.start N vs) H) : Mt P w K mg base C x (k + 1) sp := by
  obtain ⟨f, fd, F, hm⟩ := S
  have G : FnOk P w K mg base CX0 (k + 1) f fd ps sp := F.ok sc len fun cdv A outer s H vs Q E hr h => ⟨_, PSs.nox pss_wss, hbody f cdv A outer s H vs Q E hr h⟩
  exact ⟨f, fd, ps, G, hm, F.bindsN hbind⟩
end
end K47
/-! M3: columns over two elements; the lows of any reduction are the same. -/
namespace K47
abbrev Vec := Int → Bool
def vz : Vec := fun _ => false
def vx (u v : Vec) : Vec := fun x => u x != v x
def vc (l : List Int) : Vec := fun x => decide (x ∈ l)
theorem vx_comm (u v : Vec) : vx u v = vx v u := by funext x; simp [vx, bne_comm]
theorem vx_assoc (u v w : Vec) : vx (vx u v) w = vx u (vx v w) := by funext x; simp only [vx]; cases u x <;> cases v x <;> cases w x <;> rfl
theorem vx_self (u : Vec) : vx u u = vz := by funext x; simp [vx, vz]
theorem vx_z (u : Vec) : vx u vz = u := by funext x; simp [vx, vz]
theorem z_vx (u : Vec) : vx vz u = u := by funext x; simp [vx, vz]
theorem vx_cancel (u v : Vec) : vx (vx u v) v = u := by rw [vx_assoc, vx_self, vx_z]
def sv (D : Int → Vec) : List Int → Vec
  | [] => vz
  | i :: c => vx (D i) (sv D c)
theorem sv_append (D : Int → Vec) (a b : List Int) : sv D (a ++ b) = vx (sv D a) (sv D b) := by
  induction a with
  | nil => show sv D b = vx vz (sv D b); rw [z_vx]
  | cons i a ih => show vx (D i) (sv D (a ++ b)) = vx (vx (D i) (sv D a)) (sv D b); rw [ih, vx_assoc]
theorem sv_perm {D : Int → Vec} {a b : List Int} (h : a.Perm b) : sv D a = sv D b := by
  induction h with
  | nil => rfl
  | cons x _ ih => show vx _ _ = vx _ _; rw [ih]
  | swap x y l => show vx (D y) (vx (D x) (sv D l)) = vx (D x) (vx (D y) (sv D l)); rw [← vx_assoc, vx_comm (D y), vx_assoc]
  | trans _ _ ih1 ih2 => exact ih1.trans ih2
theorem mem_symd {a b : List Int} {x : Int} : x ∈ symd a b ↔ (x ∈ a ∧ x ∉ b) ∨ (x ∈ b ∧ x ∉ a) := by simp [symd]
theorem vc_symd (a b : List Int) : vc (symd a b) = vx (vc a) (vc b) := by
  funext x
  simp only [vc, vx]
  by_cases h1 : x ∈ a <;> by_cases h2 : x ∈ b <;> simp [mem_symd, h1, h2]
theorem mem_addI {a b : List Int} {x : Int} : x ∈ addI a b ↔ (x ∈ a ∧ x ∉ b) ∨ (x ∈ b ∧ x ∉ a) := by
  unfold addI
  rw [(List.mergeSort_perm _ _).mem_iff, mem_symd]
theorem vc_addI (a b : List Int) : vc (addI a b) = vx (vc a) (vc b) := by
  rw [← vc_symd]
  funext x
  simp only [vc, mem_addI, mem_symd]
theorem symd_nodup {a b : List Int} (ha : a.Nodup) (hb : b.Nodup) : (symd a b).Nodup := by
  unfold symd
  rw [List.nodup_append]
  refine ⟨ha.filter _, hb.filter _, fun x hx y hy e => ?_⟩
  subst e
  simp at hx hy
  exact hx.2 hy.1
theorem sv_symd {D : Int → Vec} {a b : List Int} (ha : a.Nodup) (hb : b.Nodup) : sv D (symd a b) = vx (sv D a) (sv D b) := by
  have pa : ((a.filter fun x => decide (x ∈ b)) ++ (a.filter fun x => !decide (x ∈ b))).Perm a := List.filter_append_perm _ a
  have pb : ((b.filter fun x => decide (x ∈ a)) ++ (b.filter fun x => !decide (x ∈ a))).Perm b := List.filter_append_perm _ b
  have pc : (a.filter fun x => decide (x ∈ b)).Perm (b.filter fun x => decide (x ∈ a)) := by
    rw [List.perm_ext_iff_of_nodup (ha.filter _) (hb.filter _)]
    intro x; simp [and_comm]
  rw [← sv_perm pa, ← sv_perm pb, sv_append, sv_append, sv_perm pc]
  unfold symd
  rw [sv_append]
  have e1 : (fun x => decide (x ∉ b)) = fun x => !decide (x ∈ b) := by funext x; simp
  have e2 : (fun x => decide (x ∉ a)) = fun x => !decide (x ∈ a) := by funext x; simp
  rw [e1, e2]
  generalize sv D (b.filter fun x => decide (x ∈ a)) = u
  generalize sv D (a.filter fun x => !decide (x ∈ b)) = v
  generalize sv D (b.filter fun x => !decide (x ∈ a)) = w
  funext x
  simp only [vx]
  cases u x <;> cases v x <;> cases w x <;> rfl
theorem sv_addI {D : Int → Vec} {a b : List Int} (ha : a.Nodup) (hb : b.Nodup) : sv D (addI a b) = vx (sv D a) (sv D b) := by
  unfold addI
  rw [sv_perm (List.mergeSort_perm _ _), sv_symd ha hb]
/-! ### ascending lists -/
def Asc (l : List Int) : Prop := l.Pairwise (· < ·)
theorem Asc.nodup {l : List Int} (h : Asc l) : l.Nodup := h.imp fun h => by omega
theorem asc_of {l : List Int} (h : l.Pairwise (· ≤ ·)) (n : l.Nodup) : Asc l := by
  have := List.Pairwise.and h n
  exact this.imp fun ⟨h1, h2⟩ => by omega
theorem asc_sort {l : List Int} (n : l.Nodup) : Asc (l.mergeSort fun x y => decide (x ≤ y)) := asc_of (sorted_sort l) ((List.mergeSort_perm _ _).nodup_iff.mpr n)
theorem asc_addI {a b : List Int} (ha : a.Nodup) (hb : b.Nodup) : Asc (addI a b) := asc_sort (symd_nodup ha hb)
theorem asc_last {l : List Int} (h : Asc l) {m : Int} (e : l.getLast? = some m) : ∀ x ∈ l, x ≤ m := by
  induction l with
  | nil => simp at e
  | cons a r ih =>
    intro x hx
    cases r with
    | nil => simp at e hx; omega
    | cons b r =>
      have e' : (b :: r).getLast? = some m := by rw [List.getLast?_cons_cons] at e; exact e
      rcases List.mem_cons.mp hx with rfl | hx
      · have h1 := (List.pairwise_cons.mp h).1 b (by simp)
        have h2 := ih (List.pairwise_cons.mp h).2 e' b (by simp)
        omega
      · exact ih (List.pairwise_cons.mp h).2 e' x hx
theorem last_of_max {l : List Int} (h : Asc l) {m : Int} (hm : m ∈ l) (hx : ∀ x ∈ l, x ≤ m) : l.getLast? = some m := by
  cases e : l.getLast? with
  | none => rw [List.getLast?_eq_none_iff] at e; subst e; simp at hm
  | some z =>
    have h1 := asc_last h e m hm
    have h2 := hx z (List.mem_of_getLast? e)
    rw [show z = m by omega]
/-! ### lows -/
def Low (v : Vec) (l : Int) : Prop := v l = true ∧ ∀ k, v k = true → k ≤ l
theorem Low.uniq {v : Vec} {l m : Int} (h : Low v l) (h2 : Low v m) : l = m := by
  have h3 := h.2 m h2.1
  have h4 := h2.2 l h.1
  omega
theorem low_last {l : List Int} (h : Asc l) {m : Int} : l.getLast? = some m ↔ Low (vc l) m := by
  constructor
  · intro e
    exact ⟨by simp [vc, List.mem_of_getLast? e], fun k hk => asc_last h e k (by simpa [vc] using hk)⟩
  · rintro ⟨h1, h2⟩
    exact last_of_max h (by simpa [vc] using h1) fun x hx => h2 x (by simp [vc, hx])
/-- what the first j columns span -/
inductive Spn (D : Nat → Vec) (j : Nat) : Vec → Prop
  | zero : Spn D j vz
  | add {i : Nat} {v : Vec} : Spn D j v → i < j → Spn D j (vx v (D i))
theorem Spn.mono {D : Nat → Vec} {j k : Nat} {v : Vec} (h : Spn D j v) (l : j ≤ k) : Spn D k v := by
  induction h with
  | zero => exact .zero
  | add _ hi ih => exact .add ih (by omega)
theorem Spn.xor {D : Nat → Vec} {j : Nat} {u v : Vec} (h : Spn D j u) (h2 : Spn D j v) : Spn D j (vx u v) := by
  induction h2 with
  | zero => rw [vx_z]; exact h
  | add _ hi ih => rw [← vx_assoc]; exact .add ih hi
theorem Spn.one {D : Nat → Vec} {j i : Nat} (h : i < j) : Spn D j (D i) := by
  have := Spn.add (Spn.zero (D := D) (j := j)) h
  rwa [z_vx] at this
/-- b is D reduced: each is its own column and earlier ones -/
def Rdc (D b : Nat → Vec) (n : Nat) : Prop := ∀ j, j < n → Spn D j (vx (b j) (D j))
theorem Rdc.sub {D b : Nat → Vec} {n : Nat} (h : Rdc D b n) : ∀ j, j ≤ n → ∀ v, Spn b j v → Spn D j v := by
  intro j hj v hv
  induction hv with
  | zero => exact .zero
  | @add i v _ hi ih =>
    have h1 := (h i (by omega)).mono (k := j) (by omega)
    have h2 : Spn D j (b i) := by
      have := h1.xor (Spn.one hi)
      rwa [vx_cancel] at this
    exact ih.xor h2
theorem Rdc.sup {D b : Nat → Vec} {n : Nat} (h : Rdc D b n) : ∀ j, j ≤ n → ∀ v, Spn D j v → Spn b j v := by
  intro j
  induction j with
  | zero =>
    intro _ v hv
    cases hv with
    | zero => exact .zero
    | add _ hi => omega
  | succ j ih =>
    intro hj v hv
    have key : ∀ i, i < j + 1 → Spn b (j + 1) (D i) := by
      intro i hi
      by_cases e : i = j
      · subst e
        have h1 := (ih (by omega) _ (h i (by omega))).mono (k := i + 1) (by omega)
        have h2 := h1.xor (Spn.one (D := b) (j := i + 1) (i := i) (by omega))
        have e2 : vx (vx (b i) (D i)) (b i) = D i := by rw [vx_comm (b i), vx_cancel]
        rwa [e2] at h2
      · exact (ih (by omega) _ (Spn.one (by omega))).mono (by omega)
    induction hv with
    | zero => exact .zero
    | @add i v _ hi ih2 => exact ih2.xor (key i hi)
/-- the lows differ -/
def Dst (b : Nat → Vec) (n : Nat) : Prop := ∀ i j l, i < n → j < n → Low (b i) l → Low (b j) l → i = j
/-- supports are bounded -/
def Bdd (b : Nat → Vec) (n : Nat) : Prop := ∃ N : Int, ∀ i, i < n → ∀ x, b i x = true → 0 ≤ x ∧ x < N
theorem low_ex {v : Vec} {N : Int} (h : ∀ x, v x = true → 0 ≤ x ∧ x < N) (hz : v ≠ vz) : ∃ l, Low v l := by
  have key : ∀ (m : Nat), (∀ x, v x = true → 0 ≤ x ∧ x < m) → v ≠ vz → ∃ l, Low v l := by
    intro m
    induction m with
    | zero =>
      intro hb hz
      refine absurd ?_ hz
      funext x
      cases e : v x with
      | false => rfl
      | true => have := hb x e; omega
    | succ m ih =>
      intro hb hz
      cases e : v m with
      | true => exact ⟨m, e, fun k hk => by have := hb k hk; omega⟩
      | false =>
        refine ih (fun x hx => ?_) hz
        have h1 := hb x hx
        refine ⟨h1.1, ?_⟩
        by_cases e2 : x = m
        · subst e2; rw [e] at hx; cases hx
        · omega
  exact key N.toNat (fun x hx => by have := h x hx; omega) hz
theorem low_xor {u v : Vec} {l m : Int} (hu : Low u l) (hv : Low v m) (hn : l ≠ m) : Low (vx u v) (max l m) := by
  by_cases h : l < m
  · rw [show max l m = m by omega]
    refine ⟨?_, fun k hk => ?_⟩
    · have : u m = false := by
        cases e : u m with
        | false => rfl
        | true => have := hu.2 m e; omega
      simp [vx, hv.1, this]
    · simp only [vx] at hk
      cases e1 : u k with
      | true => have := hu.2 k e1; omega
      | false =>
        cases e2 : v k with
        | true => exact hv.2 k e2
        | false => rw [e1, e2] at hk; simp at hk
  · rw [show max l m = l by omega]
    refine ⟨?_, fun k hk => ?_⟩
    · have : v l = false := by
        cases e : v l with
        | false => rfl
        | true => have := hv.2 l e; omega
      simp [vx, hu.1, this]
    · simp only [vx] at hk
      cases e1 : v k with
      | true => have := hv.2 k e1; omega
      | false =>
        cases e2 : u k with
        | true => exact hu.2 k e2
        | false => rw [e1, e2] at hk; simp at hk
theorem spn_bdd {b : Nat → Vec} {n j : Nat} {v : Vec} {N : Int} (hb : ∀ i, i < n → ∀ x, b i x = true → 0 ≤ x ∧ x < N) (hj : j ≤ n) (h : Spn b j v) : ∀ x, v x = true → 0 ≤ x ∧ x < N := by
  induction h with
  | zero => intro x hx; simp [vz] at hx
  | @add i v _ hi ih =>
    intro x hx
    simp only [vx] at hx
    cases e : v x with
    | true => exact ih x e
    | false =>
      cases e2 : b i x with
      | true => exact hb i (by omega) x e2
      | false => rw [e, e2] at hx; simp at hx
/-- the lows of what is spanned are the lows of those that span -/
theorem spn_low {b : Nat → Vec} {n : Nat} (hd : Dst b n) (hb : Bdd b n) : ∀ j, j ≤ n → ∀ v l, Spn b j v → Low v l → ∃ i, i < j ∧ Low (b i) l := by
  obtain ⟨N, hN⟩ := hb
  intro j
  -- every spanned vector is one with each column at most once: by the last column
  have split : ∀ j v, Spn b (j + 1) v → ∃ u, Spn b j u ∧ (v = u ∨ v = vx u (b j)) := by
    intro j v hv
    induction hv with
    | zero => exact ⟨vz, .zero, .inl rfl⟩
    | @add i v _ hi ih =>
      obtain ⟨u, hu, e⟩ := ih
      by_cases ei : i = j
      · subst ei
        rcases e with e | e
        · exact ⟨u, hu, .inr (by rw [e])⟩
        · exact ⟨u, hu, .inl (by rw [e, vx_cancel])⟩
      · refine ⟨vx u (b i), hu.add (by omega), ?_⟩
        rcases e with e | e
        · exact .inl (by rw [e])
        · exact .inr (by rw [e, vx_assoc, vx_comm (b j), ← vx_assoc])
  induction j with
  | zero =>
    intro _ v l hv hl
    cases hv with
    | zero => exact absurd hl.1 (by simp [vz])
    | add _ hi => omega
  | succ j ih =>
    intro hj v l hv hl
    obtain ⟨u, hu, e⟩ := split j v hv
    rcases e with e | e
    · subst e
      obtain ⟨i, hi, h⟩ := ih (by omega) _ l hu hl
      exact ⟨i, by omega, h⟩
    · by_cases hbz : b j = vz
      · rw [hbz, vx_z] at e
        subst e
        obtain ⟨i, hi, h⟩ := ih (by omega) _ l hu hl
        exact ⟨i, by omega, h⟩
      · obtain ⟨m, hm⟩ := low_ex (hN j (by omega)) hbz
        by_cases huz : u = vz
        · rw [huz, z_vx] at e
          subst e
          exact ⟨j, by omega, hl⟩
        · obtain ⟨m', hm'⟩ := low_ex (spn_bdd hN (by omega) hu) huz
          obtain ⟨i, hi, hi2⟩ := ih (by omega) _ m' hu hm'
          have hne : m' ≠ m := fun z => by
            subst z
            have := hd i j m' (by omega) (by omega) hi2 hm
            omega
          have := low_xor hm' hm hne
          rw [← e] at this
          have el := hl.uniq this
          by_cases h : m' < m
          · rw [el, show max m' m = m by omega]; exact ⟨j, by omega, hm⟩
          · rw [el, show max m' m = m' by omega]; exact ⟨i, by omega, hi2⟩
/-- THE LOWS of any two reductions are the same -/
theorem low_same {D b c : Nat → Vec} {n : Nat} (hb : Rdc D b n) (hc : Rdc D c n) (db : Dst b n) (dc : Dst c n) (bb : Bdd b n) (bc : Bdd c n) : ∀ j, j < n → ∀ l, Low (b j) l → Low (c j) l := by
  intro j hj l hl
  have h1 : Spn c (j + 1) (b j) := hc.sup (j + 1) (by omega) _ (hb.sub (j + 1) (by omega) _ (Spn.one (by omega)))
  obtain ⟨i, hi, hi2⟩ := spn_low dc bc (j + 1) (by omega) _ l h1 hl
  by_cases e : i = j
  · rw [← e]; exact hi2
  · exfalso
    have h2 : Spn b (i + 1) (c i) := hb.sup (i + 1) (by omega) _ (hc.sub (i + 1) (by omega) _ (Spn.one (by omega)))
    obtain ⟨k, hk, hk2⟩ := spn_low db bb (i + 1) (by omega) _ l h2 hi2
    have := db k j l (by omega) hj hk2 hl
    omega
end K47
/-! M4: what a Kept holds: orders, chains, boundaries. -/
namespace K47
open PySem PySem.Spec PyProof.Rows L2
/-- a right order -/
structure OV (os : List Sim) : Prop where
  len : os.length ≤ 60
  nd : os.Nodup
  sx : ∀ s ∈ os, Sx s
  fb : ∀ (j : Nat) (s : Sim), os[j]? = some s → ∀ f ∈ fc s, f ∈ os.take j
def dm (os : List Sim) (i : Int) : Nat := (os.getD i.toNat []).length
def Dv (os : List Sim) (i : Int) : Vec := vc (bd os (os.getD i.toNat []))
structure KV (os : List Sim) (cs bs : List (List Int)) : Prop where
  lc : cs.length = os.length
  lb : bs.length = os.length
  ch : ∀ (j : Nat) (c : List Int), cs[j]? = some c → Asc c ∧ c.getLast? = some (j : Int) ∧ ∀ i ∈ c, 0 ≤ i ∧ dm os i = dm os j
  bn : ∀ (j : Nat) (b c : List Int), bs[j]? = some b → cs[j]? = some c → Asc b ∧ vc b = sv (Dv os) c
theorem mem_bd {os : List Sim} {s : Sim} {x : Int} : x ∈ bd os s ↔ ∃ f ∈ fc s, x = ix os f := by
  unfold bd
  rw [(List.mergeSort_perm _ _).mem_iff, List.mem_map]
  exact ⟨fun ⟨f, h, e⟩ => ⟨f, h, e.symm⟩, fun ⟨f, h, e⟩ => ⟨f, h, e.symm⟩⟩
theorem sv_true {D : Int → Vec} {x : Int} : ∀ {c : List Int}, sv D c x = true → ∃ i ∈ c, D i x = true
  | [], h => by simp [sv, vz] at h
  | i :: c, h => by
    have h : (D i x != sv D c x) = true := h
    cases e : D i x with
    | true => exact ⟨i, by simp, e⟩
    | false =>
      rw [e] at h
      have h' : sv D c x = true := by simpa using h
      obtain ⟨k, hk, hk2⟩ := sv_true h'
      exact ⟨k, by simp [hk], hk2⟩
theorem sv_congr {D D' : Int → Vec} : ∀ {c : List Int}, (∀ i ∈ c, D i = D' i) → sv D c = sv D' c
  | [], _ => rfl
  | i :: c, h => by
    show vx (D i) (sv D c) = vx (D' i) (sv D' c)
    rw [h i (by simp), sv_congr fun k hk => h k (by simp [hk])]
theorem getD_of {α : Type} {xs : List α} {n : Nat} {x d : α} (h : xs[n]? = some x) : xs.getD n d = x := by rw [List.getD_eq_getElem?_getD, h]; rfl
theorem idx_take {os : List Sim} {f : Sim} {j : Nat} (h : f ∈ os.take j) : os.idxOf f < j := by
  have h1 : (os.take j).idxOf f < (os.take j).length := List.idxOf_lt_length_of_mem h
  have h2 : os.idxOf f = (os.take j).idxOf f := by
    conv => lhs; rw [← List.take_append_drop j os]
    rw [List.idxOf_append, if_pos h]
  rw [List.length_take] at h1
  omega
theorem get_idx {os : List Sim} {f : Sim} (h : f ∈ os) : os[os.idxOf f]? = some f := by
  have hl := List.idxOf_lt_length_of_mem h
  rw [List.getElem?_eq_getElem hl, List.getElem_idxOf hl]
theorem fc_size {s f : Sim} (h : f ∈ fc s) : f.length + 1 = s.length := by
  unfold fc at h
  split at h
  · simp at h; rcases h with rfl | rfl <;> simp
  · simp at h; rcases h with rfl | rfl | rfl <;> simp
  · simp at h
section
variable {os : List Sim} {cs bs : List (List Int)}
theorem KV.last_le (V : KV os cs bs) {j : Nat} {c : List Int} (h : cs[j]? = some c) : ∀ i ∈ c, i ≤ j := asc_last (V.ch j c h).1 (V.ch j c h).2.1
/-- a row of a column is the place of a face -/
theorem Dv_row (O : OV os) {i x : Int} (h : Dv os i x = true) : 0 ≤ x ∧ x < i ∧ dm os x + 1 = dm os i := by
  have h : x ∈ bd os (os.getD i.toNat []) := by simpa [Dv, vc] using h
  obtain ⟨f, hf, e⟩ := mem_bd.mp h
  have hl : i.toNat < os.length := by
    rcases Nat.lt_or_ge i.toNat os.length with z | z
    · exact z
    · rw [List.getD_eq_getElem?_getD, List.getElem?_eq_none z] at hf
      simp [fc] at hf
  have hs : os[i.toNat]? = some (os.getD i.toNat []) := by rw [List.getD_eq_getElem?_getD, List.getElem?_eq_getElem hl]; rfl
  have ht := O.fb _ _ hs f hf
  have h1 := idx_take ht
  have h2 := get_idx (List.mem_of_mem_take ht)
  subst e
  have e2 : dm os (ix os f) = f.length := by
    show (os.getD (ix os f).toNat []).length = _
    rw [show (ix os f).toNat = os.idxOf f by unfold ix; simp, getD_of h2]
  refine ⟨by unfold ix; omega, by unfold ix; omega, ?_⟩
  rw [e2]; exact fc_size hf
theorem KV.row (V : KV os cs bs) (O : OV os) {j : Nat} {b : List Int} (hb : bs[j]? = some b) {x : Int} (hx : x ∈ b) : 0 ≤ x ∧ x < j ∧ dm os x + 1 = dm os j := by
  have hl : j < cs.length := by rw [V.lc, ← V.lb]; exact (List.getElem?_eq_some_iff.mp hb).1
  have hc : cs[j]? = some cs[j] := List.getElem?_eq_getElem hl
  have h1 := (V.bn j b _ hb hc).2
  have h2 : vc b x = true := by simp [vc, hx]
  rw [h1] at h2
  obtain ⟨i, hi, h3⟩ := sv_true h2
  obtain ⟨a1, a2, a3⟩ := Dv_row O h3
  have a4 := V.last_le hc i hi
  have a5 := ((V.ch j _ hc).2.2 i hi).2
  exact ⟨a1, by omega, by omega⟩
/-- one column added to a later one -/
theorem KV.add (V : KV os cs bs) {p q : Nat} {cp cq bp bq : List Int} (hq : q < p) (h1 : cs[p]? = some cp) (h2 : cs[q]? = some cq) (h3 : bs[p]? = some bp) (h4 : bs[q]? = some bq) (hd : dm os q = dm os p) : KV os (cs.set p (addI cp cq)) (bs.set p (addI bp bq)) where
  lc := by rw [List.length_set]; exact V.lc
  lb := by rw [List.length_set]; exact V.lb
  ch := fun j c hc => by
    by_cases e : p = j
    · subst e
      rw [List.getElem?_set_self (List.getElem?_eq_some_iff.mp h1).1] at hc
      cases hc
      obtain ⟨a1, a2, a3⟩ := V.ch p cp h1
      obtain ⟨b1, b2, b3⟩ := V.ch q cq h2
      have asc := asc_addI a1.nodup b1.nodup
      refine ⟨asc, last_of_max asc ?_ ?_, fun i hi => ?_⟩
      · refine mem_addI.mpr (.inl ⟨List.mem_of_getLast? a2, fun z => ?_⟩)
        have := V.last_le h2 _ z
        omega
      · intro x hx
        rcases mem_addI.mp hx with z | z
        · exact V.last_le h1 x z.1
        · have := V.last_le h2 x z.1; omega
      · rcases mem_addI.mp hi with z | z
        · exact a3 i z.1
        · have := b3 i z.1
          exact ⟨this.1, by rw [this.2, hd]⟩
    · rw [List.getElem?_set_ne e] at hc
      exact V.ch j c hc
  bn := fun j b c hb hc => by
    by_cases e : p = j
    · subst e
      rw [List.getElem?_set_self (List.getElem?_eq_some_iff.mp h1).1] at hc
      rw [List.getElem?_set_self (List.getElem?_eq_some_iff.mp h3).1] at hb
      cases hc; cases hb
      obtain ⟨a1, a2⟩ := V.bn p bp cp h3 h1
      obtain ⟨b1, b2⟩ := V.bn q bq cq h4 h2
      exact ⟨asc_addI a1.nodup b1.nodup, by rw [vc_addI, sv_addI (V.ch p cp h1).1.nodup (V.ch q cq h2).1.nodup, a2, b2]⟩
    · rw [List.getElem?_set_ne e] at hc hb
      exact V.bn j b c hb hc
end
/-! ### a simplex behind -/
theorem ix_append {os : List Sim} {s f : Sim} (h : f ∈ os) : ix (os ++ [s]) f = ix os f := by
  unfold ix
  rw [List.idxOf_append, if_pos h]
theorem OV.prefix {os : List Sim} {s : Sim} (O : OV (os ++ [s])) : OV os where
  len := by have := O.len; rw [List.length_append] at this; omega
  nd := (List.nodup_append.mp O.nd).1
  sx := fun t ht => O.sx t (List.mem_append_left _ ht)
  fb := fun j t ht f hf => by
    have hl := (List.getElem?_eq_some_iff.mp ht).1
    have := O.fb j t (by rw [List.getElem?_append_left hl]; exact ht) f hf
    rwa [List.take_append_of_le_length (by omega)] at this
theorem dm_append {os : List Sim} {s : Sim} {i : Int} (h : i.toNat < os.length) : dm (os ++ [s]) i = dm os i := by
  unfold dm
  rw [List.getD_eq_getElem?_getD, List.getD_eq_getElem?_getD, List.getElem?_append_left h]
theorem Dv_append {os : List Sim} {s : Sim} (O : OV os) {i : Int} (h : i.toNat < os.length) : Dv (os ++ [s]) i = Dv os i := by
  unfold Dv
  have e : (os ++ [s]).getD i.toNat [] = os.getD i.toNat [] := by rw [List.getD_eq_getElem?_getD, List.getD_eq_getElem?_getD, List.getElem?_append_left h]
  rw [e]
  have hs : os[i.toNat]? = some (os.getD i.toNat []) := by rw [List.getD_eq_getElem?_getD, List.getElem?_eq_getElem h]; rfl
  congr 1
  unfold bd
  congr 1
  apply List.map_congr_left
  intro f hf
  exact ix_append (List.mem_of_mem_take (O.fb _ _ hs f hf))
theorem ix_inj {os : List Sim} {f g : Sim} (hf : f ∈ os) (hg : g ∈ os) (e : ix os f = ix os g) : f = g := by
  have h1 := get_idx hf
  have h2 := get_idx hg
  have e' : os.idxOf f = os.idxOf g := by unfold ix at e; omega
  rw [e', h2] at h1
  exact (Option.some.inj h1).symm
theorem fc_nodup {s : Sim} (h : Sx s) : (fc s).Nodup := by
  cases h with
  | one a => exact List.nodup_nil
  | two a b h h1 => simp [fc]; omega
  | three a b c h h1 h2 => simp [fc]; omega
theorem bd_nodup {os : List Sim} {s : Sim} (h : Sx s) (hf : ∀ f ∈ fc s, f ∈ os) : ((fc s).map (ix os)).Nodup := by
  unfold List.Nodup
  rw [List.pairwise_map]
  exact List.Pairwise.imp_of_mem (fun {a b} ha hb hn e => hn (ix_inj (hf a ha) (hf b hb) e)) (fc_nodup h)
theorem KV.put {os : List Sim} {cs bs : List (List Int)} {s : Sim} (V : KV os cs bs) (O : OV (os ++ [s])) : KV (os ++ [s]) (cs ++ [[(os.length : Int)]]) (bs ++ [bd (os ++ [s]) s]) where
  lc := by simp [V.lc]
  lb := by simp [V.lb]
  ch := fun j c hc => by
    by_cases e : j < cs.length
    · rw [List.getElem?_append_left e] at hc
      obtain ⟨a1, a2, a3⟩ := V.ch j c hc
      refine ⟨a1, a2, fun i hi => ⟨(a3 i hi).1, ?_⟩⟩
      have := V.last_le hc i hi
      rw [V.lc] at e
      rw [dm_append (by omega), dm_append (by omega)]
      exact (a3 i hi).2
    · rw [List.getElem?_append_right (by omega)] at hc
      have e2 : j - cs.length = 0 := by
        rcases Nat.eq_zero_or_pos (j - cs.length) with z | z
        · exact z
        · rw [List.getElem?_eq_none (by simp; omega)] at hc; cases hc
      rw [e2] at hc
      simp at hc
      subst hc
      have ej : j = os.length := by have := V.lc; omega
      subst ej
      exact ⟨by simp [Asc], by simp, fun i hi => by simp at hi; subst hi; exact ⟨by omega, rfl⟩⟩
  bn := fun j b c hb hc => by
    by_cases e : j < cs.length
    · have e' : j < bs.length := by rw [V.lb, ← V.lc]; exact e
      rw [List.getElem?_append_left e] at hc
      rw [List.getElem?_append_left e'] at hb
      obtain ⟨a1, a2⟩ := V.bn j b c hb hc
      refine ⟨a1, a2.trans (sv_congr fun i hi => ?_)⟩
      have := V.last_le hc i hi
      rw [V.lc] at e
      exact (Dv_append O.prefix (by omega)).symm
    · have e' : ¬ j < bs.length := by rw [V.lb, ← V.lc]; exact e
      rw [List.getElem?_append_right (by omega)] at hc hb
      have e2 : j - cs.length = 0 := by
        rcases Nat.eq_zero_or_pos (j - cs.length) with z | z
        · exact z
        · rw [List.getElem?_eq_none (by simp; omega)] at hc; cases hc
      have e3 : j - bs.length = 0 := by have := V.lb; have := V.lc; omega
      rw [e2] at hc
      rw [e3] at hb
      simp at hc hb
      subst hc hb
      have hs : (os ++ [s])[os.length]? = some s := by simp
      have hfin : ∀ f ∈ fc s, f ∈ os ++ [s] := fun f hf => List.mem_of_mem_take (O.fb _ _ hs f hf)
      refine ⟨asc_sort (bd_nodup (O.sx s (by simp)) hfin), ?_⟩
      show _ = vx (Dv _ _) vz
      rw [vx_z]
      unfold Dv
      rw [show ((os.length : Int)).toNat = os.length by simp, getD_of hs]
theorem KV.drop {os : List Sim} {cs bs : List (List Int)} {s : Sim} {c b : List Int} (V : KV (os ++ [s]) (cs ++ [c]) (bs ++ [b])) (O : OV (os ++ [s])) : KV os cs bs where
  lc := by have := V.lc; simpa using this
  lb := by have := V.lb; simpa using this
  ch := fun j d hd => by
    have hl := (List.getElem?_eq_some_iff.mp hd).1
    have hlc : cs.length = os.length := by have := V.lc; simpa using this
    have hd' : (cs ++ [c])[j]? = some d := by rw [List.getElem?_append_left hl]; exact hd
    obtain ⟨a1, a2, a3⟩ := V.ch j d hd'
    refine ⟨a1, a2, fun i hi => ⟨(a3 i hi).1, ?_⟩⟩
    have h1 := V.last_le hd' i hi
    have h2 := (a3 i hi).2
    rw [dm_append (by omega), dm_append (by omega)] at h2
    exact h2
  bn := fun j e d he hd => by
    have hl := (List.getElem?_eq_some_iff.mp hd).1
    have hl' := (List.getElem?_eq_some_iff.mp he).1
    have hlc : cs.length = os.length := by have := V.lc; simpa using this
    have hd' : (cs ++ [c])[j]? = some d := by rw [List.getElem?_append_left hl]; exact hd
    obtain ⟨a1, a2⟩ := V.bn j e d (by rw [List.getElem?_append_left hl']; exact he) hd'
    refine ⟨a1, a2.trans (sv_congr fun i hi => ?_)⟩
    have := V.last_le hd' i hi
    exact Dv_append O.prefix (by omega)
end K47
/-! M5: two neighbours exchanged. -/
namespace K47
open PySem PySem.Spec PyProof.Rows L2
def sw2 {α : Type} (l : List α) (p : Nat) : List α := match l[p]?, l[p + 1]? with
  | some x, some y => (l.set p y).set (p + 1) x
  | _, _ => l
def swn (p n : Nat) : Nat := if n = p then p + 1 else if n = p + 1 then p else n
theorem swp_swp (p x : Int) : swp p (swp p x) = x := by unfold swp; split <;> split <;> (try split) <;> omega
theorem swp_inj {p x y : Int} (h : swp p x = swp p y) : x = y := by rw [← swp_swp p x, h, swp_swp]
theorem swp_nat (p n : Nat) : swp (p : Int) (n : Int) = (swn p n : Nat) := by
  unfold swp swn
  split <;> split <;> (try split) <;> (try split) <;> omega
theorem swn_swn (p n : Nat) : swn p (swn p n) = n := by unfold swn; split <;> split <;> (try split) <;> omega
theorem swp_nonneg {p : Nat} {x : Int} (h : 0 ≤ x) : 0 ≤ swp (p : Int) x := by unfold swp; split <;> (try split) <;> omega
theorem swp_toNat {p : Nat} {x : Int} (h : 0 ≤ x) : (swp (p : Int) x).toNat = swn p x.toNat := by
  obtain ⟨n, rfl⟩ := Int.eq_ofNat_of_zero_le h
  have := swp_nat p n
  rw [show ((n : Int)) = (n : Int) from rfl] at this
  show (swp (p : Int) (n : Int)).toNat = _
  rw [this]; simp
theorem swn_cases (p n : Nat) : (n = p ∧ swn p n = p + 1) ∨ (n = p + 1 ∧ swn p n = p) ∨ (n ≠ p ∧ n ≠ p + 1 ∧ swn p n = n) := by unfold swn; split <;> (try split) <;> omega
theorem nodup_inj {α : Type} {l : List α} (nd : l.Nodup) {i j : Nat} {f : α} (h : l[i]? = some f) (h2 : l[j]? = some f) : i = j := by
  obtain ⟨h3, h4⟩ := List.getElem?_eq_some_iff.mp h
  obtain ⟨h5, h6⟩ := List.getElem?_eq_some_iff.mp h2
  have key := List.pairwise_iff_getElem.mp nd
  rcases Nat.lt_trichotomy i j with z | z | z
  · exact absurd (h4.trans h6.symm) (key i j h3 h5 z)
  · exact z
  · exact absurd (h6.trans h4.symm) (key j i h5 h3 z)
theorem nodup_of {α : Type} {l : List α} (h : ∀ (i j : Nat) (f : α), l[i]? = some f → l[j]? = some f → i = j) : l.Nodup := by
  refine List.pairwise_iff_getElem.mpr fun i j hi hj hij e => ?_
  have := h i j l[j] (by rw [← e]; exact List.getElem?_eq_getElem hi) (List.getElem?_eq_getElem hj)
  omega
theorem sw2_len {α : Type} (l : List α) (p : Nat) : (sw2 l p).length = l.length := by unfold sw2; split <;> simp
theorem sw2_at {α : Type} {l : List α} {p : Nat} (h : p + 1 < l.length) (n : Nat) : (sw2 l p)[n]? = l[swn p n]? := by
  have h1 : l[p]? = some l[p] := List.getElem?_eq_getElem (by omega)
  have h2 : l[p + 1]? = some l[p + 1] := List.getElem?_eq_getElem h
  unfold sw2
  rw [h1, h2]
  show ((l.set p l[p + 1]).set (p + 1) l[p])[n]? = _
  unfold swn
  by_cases e : n = p + 1
  · subst e
    rw [List.getElem?_set_self (by simpa using h), if_neg (by omega), if_pos rfl, h1]
  · rw [List.getElem?_set_ne (by omega)]
    by_cases e2 : n = p
    · subst e2
      rw [List.getElem?_set_self (by omega), if_pos rfl, h2]
    · rw [List.getElem?_set_ne (by omega), if_neg e2, if_neg e]
theorem mem_exc {c : List Int} {p x : Int} : x ∈ exc c p ↔ swp p x ∈ c := by
  unfold exc
  rw [(List.mergeSort_perm _ _).mem_iff, List.mem_map]
  constructor
  · rintro ⟨y, hy, rfl⟩
    rw [swp_swp]; exact hy
  · intro h
    exact ⟨_, h, swp_swp p x⟩
theorem exc_asc {c : List Int} {p : Int} (h : Asc c) : Asc (exc c p) := by
  refine asc_sort ?_
  unfold List.Nodup
  rw [List.pairwise_map]
  exact h.nodup.imp fun hn e => hn (swp_inj e)
theorem vc_exc (c : List Int) (p : Int) : vc (exc c p) = fun x => vc c (swp p x) := by
  funext x
  simp only [vc, mem_exc]
theorem mem_sw2 {α : Type} {l : List α} {p : Nat} (h : p + 1 < l.length) {x : α} : x ∈ sw2 l p ↔ x ∈ l := by
  constructor
  · intro hx
    obtain ⟨n, hn⟩ := List.mem_iff_getElem?.mp hx
    rw [sw2_at h] at hn
    exact List.mem_of_getElem? hn
  · intro hx
    obtain ⟨n, hn⟩ := List.mem_iff_getElem?.mp hx
    refine List.mem_iff_getElem?.mpr ⟨swn p n, ?_⟩
    rw [sw2_at h, swn_swn]; exact hn
section
variable {os : List Sim} {cs bs : List (List Int)} {p : Nat}
theorem idx_uniq {l : List Sim} (nd : l.Nodup) {f : Sim} {n : Nat} (h : l[n]? = some f) : l.idxOf f = n := by
  have hm := List.mem_of_getElem? h
  have h2 := get_idx hm
  have h3 := List.idxOf_lt_length_of_mem hm
  exact nodup_inj nd h2 h
theorem ix_sw2 (O' : OV (sw2 os p)) (h : p + 1 < os.length) {f : Sim} (hf : f ∈ os) : ix (sw2 os p) f = swp (p : Int) (ix os f) := by
  have h1 := get_idx hf
  have h2 : (sw2 os p)[swn p (os.idxOf f)]? = some f := by rw [sw2_at h, swn_swn]; exact h1
  unfold ix
  rw [idx_uniq O'.nd h2, swp_nat]
theorem dm_sw2 (h : p + 1 < os.length) {i : Int} (hi : 0 ≤ i) : dm (sw2 os p) (swp p i) = dm os i := by
  unfold dm
  rw [swp_toNat hi, List.getD_eq_getElem?_getD, sw2_at h, swn_swn, ← List.getD_eq_getElem?_getD]
theorem Dv_sw2 (O : OV os) (O' : OV (sw2 os p)) (h : p + 1 < os.length) {i : Int} (hi : 0 ≤ i) : Dv (sw2 os p) (swp p i) = fun x => Dv os i (swp p x) := by
  funext x
  have e : (sw2 os p).getD (swp p i).toNat [] = os.getD i.toNat [] := by rw [swp_toNat hi, List.getD_eq_getElem?_getD, sw2_at h, swn_swn, ← List.getD_eq_getElem?_getD]
  unfold Dv vc
  rw [e]
  congr 1
  rw [mem_bd, mem_bd]
  have hin : ∀ f ∈ fc (os.getD i.toNat []), f ∈ os := by
    intro f hf
    have hl : i.toNat < os.length := by
      rcases Nat.lt_or_ge i.toNat os.length with z | z
      · exact z
      · rw [List.getD_eq_getElem?_getD, List.getElem?_eq_none z] at hf
        simp [fc] at hf
    have hs : os[i.toNat]? = some (os.getD i.toNat []) := by rw [List.getD_eq_getElem?_getD, List.getElem?_eq_getElem hl]; rfl
    exact List.mem_of_mem_take (O.fb _ _ hs f hf)
  refine propext ⟨fun ⟨f, hf, e⟩ => ⟨f, hf, ?_⟩, fun ⟨f, hf, e⟩ => ⟨f, hf, ?_⟩⟩
  · rw [e, ix_sw2 O' h (hin f hf), swp_swp]
  · rw [ix_sw2 O' h (hin f hf), ← e, swp_swp]
theorem sv_exc (O : OV os) (O' : OV (sw2 os p)) (h : p + 1 < os.length) : ∀ {c : List Int}, (∀ i ∈ c, 0 ≤ i) → sv (Dv (sw2 os p)) (exc c p) = fun x => sv (Dv os) c (swp p x) := by
  intro c hc
  unfold exc
  rw [sv_perm (List.mergeSort_perm _ _)]
  induction c with
  | nil => rfl
  | cons i c ih =>
    show vx (Dv (sw2 os p) (swp p i)) (sv (Dv (sw2 os p)) (c.map (swp p))) = fun x => vx (Dv os i) (sv (Dv os) c) (swp p x)
    rw [ih fun k hk => hc k (by simp [hk]), Dv_sw2 O O' h (hc i (by simp))]
    rfl
theorem KV.swap (V : KV os cs bs) (O : OV os) (O' : OV (sw2 os p)) (h : p + 1 < os.length) (hn : ∀ c, cs[p + 1]? = some c → (p : Int) ∉ c) : KV (sw2 os p) ((sw2 cs p).map fun c => exc c p) ((sw2 bs p).map fun c => exc c p) where
  lc := by rw [List.length_map, sw2_len, sw2_len]; exact V.lc
  lb := by rw [List.length_map, sw2_len, sw2_len]; exact V.lb
  ch := fun j c' hc' => by
    rw [List.getElem?_map, sw2_at (by rw [V.lc]; exact h)] at hc'
    cases hc : cs[swn p j]? with
    | none => rw [hc] at hc'; cases hc'
    | some c =>
      rw [hc] at hc'
      cases hc'
      obtain ⟨a1, a2, a3⟩ := V.ch _ c hc
      have le := V.last_le hc
      have asc := exc_asc (p := p) a1
      refine ⟨asc, last_of_max asc (mem_exc.mpr ?_) ?_, fun i hi => ?_⟩
      · rw [swp_nat]; exact List.mem_of_getLast? a2
      · intro x hx
        have hy := mem_exc.mp hx
        have h1 := le _ hy
        have h2 := (a3 _ hy).1
        have h3 : j = p → swp (p : Int) x ≠ p := fun e z => by
          subst e
          rw [z] at hy
          exact hn c (by rw [← hc]; simp [swn]) hy
        have ex : x = swp p (swp p x) := (swp_swp p x).symm
        generalize swp (p : Int) x = y at *
        subst ex
        unfold swn at h1
        unfold swp
        split at h1
        · rename_i e
          have := h3 e
          split <;> (try split) <;> omega
        · split at h1
          · split <;> (try split) <;> omega
          · split <;> (try split) <;> omega
      · have hy := mem_exc.mp hi
        obtain ⟨b1, b2⟩ := a3 _ hy
        have e1 : i = swp p (swp p i) := (swp_swp _ _).symm
        refine ⟨by rw [e1]; exact swp_nonneg b1, ?_⟩
        rw [e1, dm_sw2 h b1, b2]
        have e2 : (j : Int) = swp p ((swn p j : Nat) : Int) := by rw [swp_nat, swn_swn]
        rw [e2, dm_sw2 h (by omega)]
  bn := fun j b' c' hb' hc' => by
    rw [List.getElem?_map, sw2_at (by rw [V.lc]; exact h)] at hc'
    rw [List.getElem?_map, sw2_at (by rw [V.lb]; exact h)] at hb'
    cases hc : cs[swn p j]? with
    | none => rw [hc] at hc'; cases hc'
    | some c =>
      cases hb : bs[swn p j]? with
      | none => rw [hb] at hb'; cases hb'
      | some b =>
        rw [hc] at hc'
        rw [hb] at hb'
        cases hc'; cases hb'
        obtain ⟨a1, a2⟩ := V.bn _ b c hb hc
        refine ⟨exc_asc a1, ?_⟩
        rw [vc_exc, a2, sv_exc O O' h fun i hi => ((V.ch _ c hc).2.2 i hi).1]
/-- two neighbours may be exchanged -/
theorem OV.swap (O : OV os) {x y : Sim} (hx : os[p]? = some x) (hy : os[p + 1]? = some y) (hn : x ∉ fc y) : OV (sw2 os p) := by
  have h : p + 1 < os.length := (List.getElem?_eq_some_iff.mp hy).1
  refine ⟨by rw [sw2_len]; exact O.len, ?_, fun s hs => O.sx s ((mem_sw2 h).mp hs), fun j s hs f hf => ?_⟩
  · refine nodup_of fun i j f hi hj => ?_
    rw [sw2_at h] at hi hj
    have := congrArg (swn p) (nodup_inj O.nd hi hj)
    rwa [swn_swn, swn_swn] at this
  · rw [sw2_at h] at hs
    have ht := O.fb _ s hs f hf
    have h1 := idx_take ht
    have h2 := get_idx (List.mem_of_mem_take ht)
    have h3 : (sw2 os p)[swn p (os.idxOf f)]? = some f := by rw [sw2_at h, swn_swn]; exact h2
    have h4 : swn p (os.idxOf f) < j := by
      have ne : ¬ (os.idxOf f = p ∧ swn p j = p + 1) := fun ⟨e1, e2⟩ => by
        rw [e1, hx] at h2
        cases h2
        rw [e2, hy] at hs
        cases hs
        exact hn hf
      rcases swn_cases p j with c | c | c <;> rcases swn_cases p (os.idxOf f) with d | d | d <;> omega
    obtain ⟨g1, g2⟩ := List.getElem?_eq_some_iff.mp h3
    rw [List.mem_iff_getElem?]
    exact ⟨_, by rw [List.getElem?_take, if_pos h4]; exact h3⟩
end
end K47
/-! C1: Kept, what it holds; order, chains, pairs, _named -/
namespace K47
open PySem PySem.Spec PyProof.Rows L2
def encF (fl : List (Nat × Nat)) : List (Int × Int) := fl.map fun p => ((p.1 : Int), (p.2 : Int))
def lkF (fl : List (Nat × Nat)) (n : Nat) : Option Nat := (fl.find? fun p => decide (p.1 = n)).map (·.2)
theorem lkK_encF (fl : List (Nat × Nat)) (n : Nat) : lkK (encF fl) (n : Int) = oI (lkF fl n) := by
  unfold lkK lkF encF oI
  induction fl with
  | nil => rfl
  | cons p r ih =>
    rw [List.map_cons, List.find?_cons, List.find?_cons]
    by_cases h : p.1 = n
    · simp [h]
    · have h' : ¬ ((p.1 : Int) = (n : Int)) := by omega
      simp only [h, h', decide_false]
      exact ih
def kf (a b c d : Addr) : List (Str × V) := [("_order", .ref a), ("_chains", .ref b), ("_bounds", .ref c), ("_fillers", .ref d)]
/-- a Kept at o, its lists at a b c, its dict at d -/
structure KA (C : Addr) (H : Hp) (o dx a b c d : Addr) (os : List Sim) (cs bs : List (List Int)) (fl : List (Nat × Nat)) : Prop where
  ab : a ≠ b
  ac : a ≠ c
  bc : b ≠ c
  ho : H o = some (.ins C dx (kf a b c d))
  ha : Ls H a (os.map eS)
  hb : Ls H b (cs.map eS)
  hc : Ls H c (bs.map eS)
  hd : H d = some (.dK (encK (encF fl)))
/-- the class's facts -/
structure KF (K : PySem.W.Frag) (C : Addr) : Prop where
  cls : Cls K C
  n1 : NoAttr K C "_order"
  n2 : NoAttr K C "_chains"
  n3 : NoAttr K C "_bounds"
  n4 : NoAttr K C "_fillers"
def sf (C : Addr) (os : List Sim) (cs bs : List (List Int)) (fl : List (Nat × Nat)) : Rs := .b (.f C "_order" (.l (os.map eS))) (.b (.f C "_chains" (.l (cs.map eS))) (.b (.f C "_bounds" (.l (bs.map eS))) (.f C "_fillers" (.k (encF fl)))))
theorem KA.sf {C : Addr} {H : Hp} {o dx a b c d : Addr} {os : List Sim} {cs bs : List (List Int)} {fl : List (Nat × Nat)} (A : KA C H o dx a b c d os cs bs fl) : At H (.ref o) (sf C os cs bs fl) :=
  ⟨⟨o, dx, _, .ref a, rfl, A.ho, rfl, a, rfl, A.ha⟩, ⟨o, dx, _, .ref b, rfl, A.ho, rfl, b, rfl, A.hb⟩, ⟨o, dx, _, .ref c, rfl, A.ho, rfl, c, rfl, A.hc⟩, o, dx, _, .ref d, rfl, A.ho, rfl, d, rfl, .inl A.hd⟩
theorem KA.mono {C : Addr} {H H' : Hp} {o dx a b c d : Addr} {os : List Sim} {cs bs : List (List Int)} {fl : List (Nat × Nat)} (A : KA C H o dx a b c d os cs bs fl) (s : Same H H') : KA C H' o dx a b c d os cs bs fl :=
  ⟨A.ab, A.ac, A.bc, s _ _ A.ho, A.ha.mono s, A.hb.mono s, A.hc.mono s, s _ _ A.hd⟩
section
variable {X : Cx} {Γ : Gm} {e : Expr} {pos : Pos} {C : Addr} {os : List Sim} {cs bs : List (List Int)} {fl : List (Nat × Nat)}
theorem pu_sOrder (F : KF X.K C) (h : Pu X Γ e (sf C os cs bs fl)) (hb : attributeBase e "_order" X.env (eval e X.env) = eval e X.env := by rfl) : Pu X Γ (.Attribute e "_order" pos) (.l (os.map eS)) := pu_fld F.cls F.n1 (pu_b1 h) hb
theorem pu_sChains (F : KF X.K C) (h : Pu X Γ e (sf C os cs bs fl)) (hb : attributeBase e "_chains" X.env (eval e X.env) = eval e X.env := by rfl) : Pu X Γ (.Attribute e "_chains" pos) (.l (cs.map eS)) := pu_fld F.cls F.n2 (pu_b1 (pu_b2 h)) hb
theorem pu_sBounds (F : KF X.K C) (h : Pu X Γ e (sf C os cs bs fl)) (hb : attributeBase e "_bounds" X.env (eval e X.env) = eval e X.env := by rfl) : Pu X Γ (.Attribute e "_bounds" pos) (.l (bs.map eS)) := pu_fld F.cls F.n3 (pu_b1 (pu_b2 (pu_b2 h))) hb
theorem pu_sFillers (F : KF X.K C) (h : Pu X Γ e (sf C os cs bs fl)) (hb : attributeBase e "_fillers" X.env (eval e X.env) = eval e X.env := by rfl) : Pu X Γ (.Attribute e "_fillers" pos) (.k (encF fl)) := pu_fld F.cls F.n4 (pu_b2 (pu_b2 (pu_b2 h))) hb
end
section
variable {P : Program} {w : World} {K : PySem.W.Frag} {mg : Str → Option Value} {base : Heap}
/-- a method that gives a new list -/
theorem mk_methN {C : Addr} {x qual : Str} {c j : Nat} {N ps : List Str} {k : Nat} {R : List Rs → List PyData → Prop} (S : StandsM K C x qual c j) (sc : FnScope N ps (defScope (inClass (top c) j))) (len : ∀ as r, R as r → as.length = ps.length)
    (hbind : ∀ (kV doc pm : Value) (an : Option Addr) (cdv ct : Value) (us : List Value), us.length = ps.length → bindArgs (PySem.W.fnOf x qual (defArgs (inClass (top c) j)) (defBody (inClass (top c) j)) (defScope (inClass (top c) j)) .none kV doc pm an cdv ct) ⟨us, []⟩ = pure (ps.zip us))
    (hbody : ∀ (f : Addr) (cdv : Value) (A : Around) (outer : List Env) (s : Shared) (H : Hp) (E : XK), Room k (A.deeper (envOfC qual (defScope (inClass (top c) j)) s.heap.objs.size f cdv)) → ∀ (as : List Rs) (r : List PyData), R as r →
      GoN (cxOf CX0 P w K mg base N qual (defScope (inClass (top c) j)) f cdv A outer s H E).nox (as.map some ++ List.replicate (N.length - as.length) none) (defBody (inClass (top c) j)) r) : Mt P w K mg base C x (k + 1) (spN R) := by
  refine mk_meth S sc (fun vs H Q E h => ?_) hbind fun f cdv A outer s H vs Q E hr h => ?_
  · obtain ⟨as, r, a, hR, _⟩ := h
    rw [Paired.length a]; exact len as r hR
  · obtain ⟨as, r, a, hR, q⟩ := h
    exact hbody f cdv A outer s H E hr as r hR _ H (sl_start' a) _ q
variable {C : Addr}
def rKOrd (C : Addr) : List Rs → List PyData → Prop := fun as r => ∃ os cs bs fl, as = [sf C os cs bs fl] ∧ r = os.map eS
theorem sc_531 : FnScope ["self"] ["self"] (defScope (inClass (top 53) 1)) := ⟨rfl, rfl, rfl, by decide +kernel, rfl, by decide +kernel, by decide +kernel⟩
theorem ok_Korder (M : Mg mg) (F : KF K C) (S : StandsM K C "order" "Kept.order" 53 1) : Mt P w K mg base C "order" 1 (spN (rKOrd C)) := by
  refine mk_methN S sc_531 (fun as r h => by obtain ⟨_, _, _, _, rfl, _⟩ := h; rfl) (fun _ _ _ _ _ _ us hl => match us, hl with | [_], _ => rfl) fun f cdv A outer s H E hr as r h => ?_
  obtain ⟨os, cs, bs, fl, rfl, rfl⟩ := h
  exact gon_ret (pun_listL M (pu_sOrder F (pu_var 0)))
def rKCh (C : Addr) : List Rs → List PyData → Prop := fun as r => ∃ os cs bs fl, as = [sf C os cs bs fl] ∧ r = cs.map eS
theorem sc_532 : FnScope ["self"] ["self"] (defScope (inClass (top 53) 2)) := ⟨rfl, rfl, rfl, by decide +kernel, rfl, by decide +kernel, by decide +kernel⟩
theorem ok_Kchains (M : Mg mg) (F : KF K C) (S : StandsM K C "chains" "Kept.chains" 53 2) : Mt P w K mg base C "chains" 1 (spN (rKCh C)) := by
  refine mk_methN S sc_532 (fun as r h => by obtain ⟨_, _, _, _, rfl, _⟩ := h; rfl) (fun _ _ _ _ _ _ us hl => match us, hl with | [_], _ => rfl) fun f cdv A outer s H E hr as r h => ?_
  obtain ⟨os, cs, bs, fl, rfl, rfl⟩ := h
  exact gon_ret (pun_listL M (pu_sChains F (pu_var 0)))
/-! ### pairs -/
def birthsOf (bs : List (List Int)) : List Nat := (bs.zipIdx.filter fun q => decide (q.1 = [])).map (·.2)
def pairsOf (bs : List (List Int)) (fl : List (Nat × Nat)) : List Pr := (birthsOf bs).map fun n => (n, lkF fl n)
def rKPr (C : Addr) : List Rs → List PyData → Prop := fun as r => ∃ os cs bs fl, as = [sf C os cs bs fl] ∧ bs.length ≤ 1000 ∧ r = (pairsOf bs fl).map eP
theorem sc_533 : FnScope ["self", "births", "place", "bound"] ["self"] (defScope (inClass (top 53) 3)) := ⟨rfl, rfl, rfl, by decide +kernel, rfl, by decide +kernel, by decide +kernel⟩
theorem births_len (bs : List (List Int)) : (birthsOf bs).length ≤ bs.length := by
  unfold birthsOf
  rw [List.length_map]
  refine Nat.le_trans (List.length_filter_le _ _) ?_
  rw [List.length_zipIdx]; exact Nat.le_refl _
theorem ok_Kpairs (M : Mg mg) (F : KF K C) (S : StandsM K C "pairs" "Kept.pairs" 53 3) : Mt P w K mg base C "pairs" 1 (spN (rKPr C)) := by
  refine mk_methN S sc_533 (fun as r h => by obtain ⟨_, _, _, _, rfl, _⟩ := h; rfl) (fun _ _ _ _ _ _ us hl => match us, hl with | [_], _ => rfl) fun f cdv A outer s H E hr as r h => ?_
  obtain ⟨os, cs, bs, fl, rfl, hz, rfl⟩ := h
  have hu : (A.deeper (envOfC "Kept.pairs" (defScope (inClass (top 53) 3)) s.heap.objs.size f cdv)).units + 64 < cLine := by have := hr.un; omega
  have hu1 : (A.deeper (envOfC "Kept.pairs" (defScope (inClass (top 53) 3)) s.heap.objs.size f cdv)).units + 1 < cLine := by omega
  have hbl := births_len bs
  refine gon_setLc 1 (ds := (birthsOf bs).map fun n => .int (n : Nat)) ((lcd2 (xs := bs.zipIdx) (enc := fun q => .tuple [.int (q.2 : Nat), eS q.1]) (own := [("place", 2), ("bound", 3)]) (g := g2 K 2 3) ["self", "births", "place", "bound"] (defScope (inClass (top 53) 3)) (fun q => [some (sf C os cs bs fl), none, some (.d (.int (q.2 : Nat))), some (.d (eS q.1))])
    (fun q => decide (q.1 = [])) (fun q => .int (q.2 : Nat)) ((src_enum M (pu_sBounds F (pu_var 0))).to (by rw [List.zipIdx_map, List.map_map]; rfl)) sc_533.nd (by rw [List.length_zipIdx]; omega) (fun _ _ _ _ _ => pg_2 2 3 sc_533.nd) (fun q _ => gd_2) (fun q _ _ _ _ _ _ => .one ?_) (fun q _ _ _ _ _ _ _ => pu_var 2)).to ?_) ?_
  · exact (put_cmp (op_eqD hu) (rv_eqD (sh_S q.1) (sh_S [])) (by rfl) (pu_var 3) (pu_tup (ds := []) pua_nil)).to (eqv_S q.1 [])
  · unfold birthsOf; rw [List.map_map]; rfl
  · refine gon_ret (((lcd1a (xs := birthsOf bs) (enc := fun n => .int (n : Nat)) ["self", "births", "place", "bound"] (defScope (inClass (top 53) 3)) 2 (fun n => eP (n, lkF fl n)) (src_list (pu_var 1)) sc_533.nd (by omega) (fun n _ _ _ _ _ _ => ?_))).pun.to (by unfold pairsOf; rw [List.map_map]; rfl))
    exact (pu_tup (ds := [.int (n : Nat), oD (lkK (encF fl) (n : Nat))]) (pua_cons (pu_var 2) (pua_cons (pu_get1K hu1 (pu_sFillers F (pu_var 0)) (pu_var 2)) pua_nil)) (by simp)).to (by rw [lkK_encF]; rfl)
end
end K47
/-! M6: reduced up to a place; lengths. -/
namespace K47
open PySem PySem.Spec PyProof.Rows L2
theorem asc_len {l : List Int} (h : Asc l) : ∀ {N : Nat}, (∀ x ∈ l, 0 ≤ x ∧ x < N) → l.length ≤ N := by
  induction l with
  | nil => intro _ _; simp
  | cons a r ih =>
    intro N hb
    have h1 := List.pairwise_cons.mp h
    have ha := hb a (by simp)
    -- shift the rest down
    have key : ∀ (r : List Int) (lo : Int) (N : Nat), Asc r → (∀ x ∈ r, lo < x ∧ x < N) → 0 ≤ lo → lo < N → (r.length : Int) ≤ N - lo - 1 := by
      intro r
      induction r with
      | nil => intro lo N _ _ _ _; simp; omega
      | cons b r ih2 =>
        intro lo N hA hB h0 hN
        have h2 := List.pairwise_cons.mp hA
        have hb2 := hB b (by simp)
        have := ih2 b N h2.2 (fun x hx => ⟨h2.1 x hx, (hB x (by simp [hx])).2⟩) (by omega) (by omega)
        simp only [List.length_cons]; omega
    have := key r a N h1.2 (fun x hx => ⟨h1.1 x hx, (hb x (by simp [hx])).2⟩) ha.1 ha.2
    simp only [List.length_cons]; omega
/-- the first k columns have lows that differ; fl tells them -/
structure RP (bs : List (List Int)) (fl : List (Nat × Nat)) (k : Nat) : Prop where
  iff : ∀ l j : Nat, lkF fl l = some j ↔ j < k ∧ ∃ b, bs[j]? = some b ∧ b.getLast? = some (l : Int)
  len : fl.length ≤ k
theorem RP.zero (bs : List (List Int)) : RP bs [] 0 := ⟨fun l j => ⟨fun h => by simp [lkF] at h, fun h => by omega⟩, by simp⟩
theorem RP.set {bs : List (List Int)} {fl : List (Nat × Nat)} {k : Nat} (R : RP bs fl k) (x : List Int) : RP (bs.set k x) fl k := ⟨fun l j => by
  rw [R.iff]
  constructor
  · rintro ⟨h1, h2⟩
    exact ⟨h1, by rw [List.getElem?_set_ne (by omega)]; exact h2⟩
  · rintro ⟨h1, h2⟩
    rw [List.getElem?_set_ne (by omega)] at h2
    exact ⟨h1, h2⟩, R.len⟩
theorem RP.next0 {bs : List (List Int)} {fl : List (Nat × Nat)} {k : Nat} (R : RP bs fl k) {b : List Int} (hb : bs[k]? = some b) (e : b.getLast? = none) : RP bs fl (k + 1) := ⟨fun l j => by
  rw [R.iff]
  constructor
  · rintro ⟨h1, h2⟩
    exact ⟨by omega, h2⟩
  · rintro ⟨h1, b', h2, h3⟩
    refine ⟨?_, b', h2, h3⟩
    by_cases z : j = k
    · subst z
      rw [hb] at h2
      cases h2
      rw [e] at h3; cases h3
    · omega, by have := R.len; omega⟩
theorem lkF_append {fl : List (Nat × Nat)} {l p x : Nat} (h : lkF fl l = none) : lkF (fl ++ [(l, p)]) x = if x = l then some p else lkF fl x := by
  unfold lkF at h ⊢
  rw [List.find?_append]
  by_cases e : x = l
  · subst e
    rw [if_pos rfl]
    have : fl.find? (fun q => decide (q.1 = x)) = none := by
      cases q : fl.find? (fun q => decide (q.1 = x)) with
      | none => rfl
      | some z => rw [q] at h; cases h
    rw [this]; simp
  · rw [if_neg e]
    have e' : ¬ l = x := fun z => e z.symm
    simp [List.find?_cons, e']
theorem RP.next1 {bs : List (List Int)} {fl : List (Nat × Nat)} {k l : Nat} (R : RP bs fl k) {b : List Int} (hb : bs[k]? = some b) (e : b.getLast? = some (l : Int)) (hn : lkF fl l = none) : RP bs (fl ++ [(l, k)]) (k + 1) := ⟨fun x j => by
  rw [lkF_append hn]
  by_cases hx : x = l
  · subst hx
    rw [if_pos rfl]
    constructor
    · intro h
      cases h
      exact ⟨by omega, b, hb, e⟩
    · rintro ⟨h1, b', h2, h3⟩
      by_cases z : j = k
      · rw [z]
      · have := (R.iff x j).mpr ⟨by omega, b', h2, h3⟩
        rw [hn] at this; cases this
  · rw [if_neg hx, R.iff]
    constructor
    · rintro ⟨h1, h2⟩
      exact ⟨by omega, h2⟩
    · rintro ⟨h1, b', h2, h3⟩
      refine ⟨?_, b', h2, h3⟩
      by_cases z : j = k
      · subst z
        rw [hb] at h2
        cases h2
        rw [e] at h3
        have := Option.some.inj h3
        omega
      · omega, by rw [List.length_append]; have := R.len; simp; omega⟩
section
variable {os : List Sim} {cs bs : List (List Int)}
theorem KV.clen (V : KV os cs bs) (O : OV os) {j : Nat} {c : List Int} (h : cs[j]? = some c) : c.length ≤ 100 := by
  have hl : j < os.length := by rw [← V.lc]; exact (List.getElem?_eq_some_iff.mp h).1
  have := asc_len (V.ch j c h).1 (N := j + 1) fun x hx => ⟨((V.ch j c h).2.2 x hx).1, by have := V.last_le h x hx; omega⟩
  have := O.len; omega
theorem KV.blen (V : KV os cs bs) (O : OV os) {j : Nat} {c b : List Int} (h : cs[j]? = some c) (hb : bs[j]? = some b) : b.length ≤ 100 := by
  have hl : j < os.length := by rw [← V.lc]; exact (List.getElem?_eq_some_iff.mp h).1
  have := asc_len (V.bn j b c hb h).1 (N := j) fun x hx => ⟨(V.row O hb hx).1, (V.row O hb hx).2.1⟩
  have := O.len; omega
theorem KV.both (V : KV os cs bs) {j : Nat} (h : j < os.length) : ∃ c b, cs[j]? = some c ∧ bs[j]? = some b :=
  ⟨_, _, List.getElem?_eq_getElem (by rw [V.lc]; exact h), List.getElem?_eq_getElem (by rw [V.lb]; exact h)⟩
end
end K47
/-! C2: _named, _add -/
namespace K47
open PySem PySem.Spec PyProof.Rows L2
/-- all but those of ow stays -/
def Fr (ow : List Addr) (H H' : Hp) : Prop := ∀ x u, x ∉ ow → H x = some u → H' x = some u
theorem Fr.of {ow : List Addr} {H H' : Hp} (s : Same H H') : Fr ow H H' := fun x u _ h => s x u h
theorem Fr.trans {ow : List Addr} {H H1 H2 : Hp} (a : Fr ow H H1) (b : Fr ow H1 H2) : Fr ow H H2 := fun x u n h => b x u n (a x u n h)
theorem Fr.upd {ow : List Addr} {H : Hp} {q : Addr} {o : HO} (h : q ∈ ow) : Fr ow H (upd H q o) := fun x u n e => by
  rw [upd_ne fun z => n (by rw [z]; exact h)]; exact e
/-- tuples stay: those of ow are none -/
theorem Fr.tx {ow : List Addr} {H H' : Hp} (f : Fr ow H H') (h : ∀ q ∈ ow, ∀ xs, H q ≠ some (.tup xs)) : Tx H H' := fun a xs e => f a _ (fun m => h a m xs e) e
section
variable {P : Program} {w : World} {K : PySem.W.Frag} {mg : Str → Option Value} {base : Heap} {C : Addr}
theorem KA.notup {H : Hp} {o dx a b c d : Addr} {os : List Sim} {cs bs : List (List Int)} {fl : List (Nat × Nat)} (A : KA C H o dx a b c d os cs bs fl) : ∀ q ∈ [o, a, b, c, d], ∀ xs, H q ≠ some (.tup xs) := by
  intro q hq xs e
  obtain ⟨_, h1, _⟩ := A.ha
  obtain ⟨_, h2, _⟩ := A.hb
  obtain ⟨_, h3, _⟩ := A.hc
  have h4 := A.ho
  have h5 := A.hd
  simp at hq
  rcases hq with rfl | rfl | rfl | rfl | rfl
  · rw [h4] at e; cases e
  · rw [h1] at e; cases e
  · rw [h2] at e; cases e
  · rw [h3] at e; cases e
  · rw [h5] at e; cases e
/-! ### _named -/
def eN (os : List Sim) (p : Pr) : PyData := .tuple [eS (os.getD p.1 []), match p.2 with
  | none => .none
  | some d => eS (os.getD d [])]
def spNm (C : Addr) : Sp := fun vs H Q _ => ∃ o dx a b c d os cs bs fl, vs = [V.ref o] ∧ KA C H o dx a b c d os cs bs fl ∧ bs.length ≤ 1000 ∧ (∀ p ∈ pairsOf bs fl, p.1 < os.length ∧ ∀ d, p.2 = some d → d < os.length) ∧
  ∀ p H', H p = none → Same H H' → Ls H' p ((pairsOf bs fl).map (eN os)) → Q (.ref p) H'
theorem sc_537 : FnScope ["self", "found", "birth", "death"] ["self"] (defScope (inClass (top 53) 7)) := ⟨rfl, rfl, rfl, by decide +kernel, rfl, by decide +kernel, by decide +kernel⟩
theorem getS {os : List Sim} {n : Nat} (h : n < os.length) : (os.map eS)[n]? = some (eS (os.getD n [])) := by
  rw [List.getElem?_map, List.getD_eq_getElem?_getD, List.getElem?_eq_getElem h]; rfl
theorem ok_Knamed (M : Mg mg) (F : KF K C) (S : StandsM K C "_named" "Kept._named" 53 7) (DP : Mt P w K mg base C "pairs" 1 (spN (rKPr C))) : Mt P w K mg base C "_named" 2 (spNm C) := by
  refine mk_meth S sc_537 (fun vs H Q E h => by obtain ⟨_, _, _, _, _, _, _, _, _, _, rfl, _⟩ := h; rfl) (fun _ _ _ _ _ _ us hl => match us, hl with | [_], _ => rfl) fun f cdv A outer s H vs Q E hr h => ?_
  obtain ⟨o, dx, a, b, c, d, os, cs, bs, fl, rfl, KAH, hz, hp, q'⟩ := h
  have S0 := sl_start' (N := ["self", "found", "birth", "death"]) (as := [sf C os cs bs fl]) (.cons KAH.sf .nil)
  generalize hσ : L2.start ["self", "found", "birth", "death"] [V.ref o] = σ at S0 ⊢
  have hv0 : σ[0]? = some (some (V.ref o)) := by rw [← hσ]; rfl
  have hpl : (pairsOf bs fl).length ≤ 1000 := by
    unfold pairsOf
    rw [List.length_map]
    exact Nat.le_trans (births_len bs) hz
  refine wss_cons (ws_setN 1 sc_537.nd S0 (pun_lst (ds := []) pua_nil) fun q H1 hq s1 l1 => ?_)
  have S0' := (S0.set0 (v := .ref q) 1)
  have hlen : 4 = σ.length := S0.len
  refine wss_cons (ws_acc (ds := (pairsOf bs fl).map eP) (Γ0 := [some (sf C os cs bs fl), none, none, none]) (q := q) (g := g2 K 2 3) (Iq := fun a => H1 a = none) 1 (fun i => ((pairsOf bs fl).take i).map (eN os)) [2, 3]
    (srcS_we fun Q hQ => we_meth0 DP F.cls (hr.mono (by decide)) (we_name 0 (by rw [List.getElem?_set_ne (by decide)]; exact hv0) ⟨o, dx, _, rfl, (KAH.mono s1).ho, rfl, fun E' => ⟨[sf C os cs bs fl], _, .cons (KAH.mono s1).sf .nil, ⟨os, cs, bs, fl, rfl, hz, rfl⟩, fun p H3 n3 s3 l3 => hQ p H3 s3 l3 n3⟩⟩)) (fun b hb _ e => ?_) (pg_2 2 3 sc_537.nd) s1 hq S0' (List.getElem?_set_self (by omega)) l1 bare_of (by decide) ?_ ?_)
  · subst e; obtain ⟨_, h, _⟩ := l1; rw [h] at hb; cases hb
  · intro i d hd σ' H' x sH xH SH hw hf hl im N hN
    rw [List.getElem?_map] at hd
    cases hpi : (pairsOf bs fl)[i]? with
    | none => rw [hpi] at hd; cases hd
    | some pr =>
      rw [hpi] at hd
      cases hd
      have hm : pr ∈ pairsOf bs fl := List.mem_of_getElem? hpi
      obtain ⟨hb1, hb2⟩ := hp pr hm
      have hti : (pairsOf bs fl).take (i + 1) = (pairsOf bs fl).take i ++ [pr] := by
        obtain ⟨h1, h2⟩ := List.getElem?_eq_some_iff.mp hpi
        rw [List.take_succ_eq_append_getElem h1, h2]
      refine gd_2 (vs := [2, 3]) (by simp) (by simp) x σ' H' im (SH.mono sH) _ fun σ1 S1 w1 => ?_
      have hf3 : σ1[1]? = some (some (.ref q)) := by rw [wipe_get w1 (by decide)]; exact hf
      refine wss_one (ws_app 1 (d := eN os pr) S1 hf3 hl ((pu_tup (ds := [eS (os.getD pr.1 []), match pr.2 with
        | none => .none
        | some d => eS (os.getD d [])]) (pua_cons (pu_ixL (pu_sOrder F (pu_var 0)) (pu_var 2) (atI_nat' (getS hb1) rfl)) (pua_cons (pu_if (k := pr.2.isNone) ((put_cmp op_isN rv_isN (by rfl) (pu_var 3) pu_non).to (by rw [isNon_oD]; cases pr.2 <;> rfl)) (fun h => ?_) fun h => ?_) pua_nil)) (by simp)).to rfl) ?_ fun H5 x5 l5 => hN _ _ x5 ?_ w1)
      · cases e : pr.2 with
        | none => exact pu_non
        | some d => rw [e] at h; cases h
      · cases e : pr.2 with
        | none => rw [e] at h; cases h
        | some d => exact pu_ixL (pu_sOrder F (pu_var 0)) (pu_var 3) (atI_nat' (getS (hb2 d e)) rfl)
      · rw [List.length_map, List.length_take]; omega
      · rw [hti]; simpa using l5
  · intro σ' H' xH hl hw
    have sH : Same H H' := xH.base s1 hq
    have hf : σ'[1]? = some (some (.ref q)) := by rw [wipe_get hw (by decide)]; exact List.getElem?_set_self (by omega)
    rw [List.length_map, List.take_length] at hl
    exact wss_one (ws_retW (we_name 1 hf (q' q H' hq sH hl)))
end
end K47
/-! C3: _add; what changes of a Kept -/
namespace K47
open PySem PySem.Spec PyProof.Rows L2
theorem Ls.off {H : Hp} {x y : Addr} {ds es : List PyData} {vs : List V} (h : Ls H x ds) (hy : Ls H y es) (n : x ≠ y) : Ls (upd H y (.lst vs)) x ds := by
  obtain ⟨us, h1, h2⟩ := h
  obtain ⟨ws, h3, _⟩ := hy
  exact ⟨us, by rw [upd_ne n]; exact h1, h2.mono (.mut h3 fun _ z => nomatch z)⟩
theorem ls_map_set (xs : List (List Int)) (j : Nat) (x : List Int) : (xs.set j x).map eS = (xs.map eS).set j (eS x) := by rw [List.map_set]
section
variable {C : Addr} {H : Hp} {o dx a b c d : Addr} {os : List Sim} {cs bs : List (List Int)} {fl : List (Nat × Nat)}
theorem lst_ne {H : Hp} {x y : Addr} {ds : List PyData} {u : HO} (h : Ls H x ds) (e : H y = some u) (n : ∀ vs, u ≠ .lst vs) : y ≠ x := fun z => by
  subst z
  obtain ⟨vs, h1, _⟩ := h
  rw [h1] at e
  exact n vs (Option.some.inj e).symm
theorem KA.setA (A : KA C H o dx a b c d os cs bs fl) {vs : List V} {os' : List Sim} (h : ImAll H vs (os'.map eS)) : KA C (upd H a (.lst vs)) o dx a b c d os' cs bs fl :=
  ⟨A.ab, A.ac, A.bc, by rw [upd_ne (lst_ne A.ha A.ho fun _ z => nomatch z)]; exact A.ho, ⟨vs, upd_same, by obtain ⟨ws, h3, _⟩ := A.ha; exact h.mono (.mut h3 fun _ z => nomatch z)⟩, A.hb.off A.ha A.ab.symm, A.hc.off A.ha A.ac.symm, by rw [upd_ne (lst_ne A.ha A.hd fun _ z => nomatch z)]; exact A.hd⟩
theorem KA.setB (A : KA C H o dx a b c d os cs bs fl) {vs : List V} {cs' : List (List Int)} (h : ImAll H vs (cs'.map eS)) : KA C (upd H b (.lst vs)) o dx a b c d os cs' bs fl :=
  ⟨A.ab, A.ac, A.bc, by rw [upd_ne (lst_ne A.hb A.ho fun _ z => nomatch z)]; exact A.ho, A.ha.off A.hb A.ab, ⟨vs, upd_same, by obtain ⟨ws, h3, _⟩ := A.hb; exact h.mono (.mut h3 fun _ z => nomatch z)⟩, A.hc.off A.hb A.bc.symm, by rw [upd_ne (lst_ne A.hb A.hd fun _ z => nomatch z)]; exact A.hd⟩
theorem KA.setC (A : KA C H o dx a b c d os cs bs fl) {vs : List V} {bs' : List (List Int)} (h : ImAll H vs (bs'.map eS)) : KA C (upd H c (.lst vs)) o dx a b c d os cs bs' fl :=
  ⟨A.ab, A.ac, A.bc, by rw [upd_ne (lst_ne A.hc A.ho fun _ z => nomatch z)]; exact A.ho, A.ha.off A.hc A.ac, A.hb.off A.hc A.bc, ⟨vs, upd_same, by obtain ⟨ws, h3, _⟩ := A.hc; exact h.mono (.mut h3 fun _ z => nomatch z)⟩, by rw [upd_ne (lst_ne A.hc A.hd fun _ z => nomatch z)]; exact A.hd⟩
end
theorem ixN_nat' {n : Nat} {j : Nat} {i : Int} (h : j < n) (e : i = j) : ixN n i = some j := by
  subst e
  unfold ixN
  rw [if_pos (by omega), if_pos (by omega)]; simp
section
variable {P : Program} {w : World} {K : PySem.W.Frag} {mg : Str → Option Value} {base : Heap} {C : Addr}
def spAdd (C : Addr) : Sp := fun vs H Q _ => ∃ o dx a b c d os cs bs fl, ∃ (q p : Nat) (cp cq bp bq : List Int), vs = [V.ref o, .int (q : Nat), .int (p : Nat)] ∧ KA C H o dx a b c d os cs bs fl ∧
  cs[p]? = some cp ∧ cs[q]? = some cq ∧ bs[p]? = some bp ∧ bs[q]? = some bq ∧ cp.length ≤ 1000 ∧ cq.length ≤ 1000 ∧ bp.length ≤ 1000 ∧ bq.length ≤ 1000 ∧
  ∀ H', KA C H' o dx a b c d os (cs.set p (addI cp cq)) (bs.set p (addI bp bq)) fl → Fr [o, a, b, c, d] H H' → Q .non H'
theorem sc_538 : FnScope ["self", "place", "other"] ["self", "place", "other"] (defScope (inClass (top 53) 8)) := ⟨rfl, rfl, rfl, by decide +kernel, rfl, by decide +kernel, by decide +kernel⟩
theorem ok_Kadd (M : Mg mg) (F : KF K C) (S : StandsM K C "_add" "Kept._add" 53 8) (DA : Df0 P w K mg base "added" 1 (spU rAdded)) : Mt P w K mg base C "_add" 2 (spAdd C) := by
  refine mk_meth S sc_538 (fun vs H Q E h => by obtain ⟨_, _, _, _, _, _, _, _, _, _, _, _, _, _, _, _, rfl, _⟩ := h; rfl) (fun _ _ _ _ _ _ us hl => match us, hl with | [_, _, _], _ => rfl) fun f cdv A outer s H vs Q E hr h => ?_
  obtain ⟨o, dx, a, b, c, d, os, cs, bs, fl, q, p, cp, cq, bp, bq, rfl, KH, h1, h2, h3, h4, z1, z2, z3, z4, q'⟩ := h
  have hv : L2.start ["self", "place", "other"] [V.ref o, .int (q : Nat), .int (p : Nat)] = [some (.ref o), some (.int (q : Nat)), some (.int (p : Nat))] := rfl
  rw [hv]
  have at1 : ∀ {xs : List (List Int)} {n : Nat} {x : List Int}, xs[n]? = some x → (xs.map eS)[n]? = some (eS x) := fun h => by rw [List.getElem?_map, h]; rfl
  have S0 : ∀ (H' : Hp) (cs' bs' : List (List Int)), KA C H' o dx a b c d os cs' bs' fl → Sl H' [some (V.ref o), some (.int (q : Nat)), some (.int (p : Nat))] [some (sf C os cs' bs' fl), some (.d (.int (q : Nat))), some (.d (.int (p : Nat)))] := fun H' cs' bs' A' => by
    have := sl_start' (N := ["self", "place", "other"]) (H := H') (vs := [V.ref o, .int (q : Nat), .int (p : Nat)]) (as := [sf C os cs' bs' fl, .d (.int (q : Nat)), .d (.int (p : Nat))]) (.cons A'.sf (.cons (.int _) (.cons (.int _) .nil)))
    exact this
  refine wss_cons (ws_setL (we_pu (S0 H cs bs KH) (pu_call DA.df hr (pua_cons (pu_ixL (pu_sChains F (pu_var 0)) (pu_var 2) (atI_nat' (at1 h1) rfl)) (pua_cons (pu_ixL (pu_sChains F (pu_var 0)) (pu_var 1) (atI_nat' (at1 h2) rfl)) pua_nil)) ⟨cp, cq, rfl, by omega, by omega, rfl⟩) fun y H1 s1 a1 => we_fld (we_name 0 rfl ⟨o, C, dx, _, V.ref b, rfl, s1 _ _ KH.ho, F.cls, F.n2, rfl, ?_⟩)))
  have K1 := KH.mono s1
  obtain ⟨us, hus, al⟩ := K1.hb
  have hp1 : p < us.length := by rw [al.length, List.length_map]; exact (List.getElem?_eq_some_iff.mp h1).1
  refine we_name 2 rfl ⟨b, us, p, p, rfl, rfl, hus, ixN_nat' hp1 rfl, ?_⟩
  have K2 := K1.setB (vs := us.set p y) (cs' := cs.set p (addI cp cq)) (by rw [ls_map_set]; exact al.set a1 p)
  have f2 : Fr [o, a, b, c, d] H (upd H1 b (.lst (us.set p y))) := (Fr.of s1).trans (.upd (by simp))
  generalize upd H1 b (.lst (us.set p y)) = H2 at K2 f2
  refine wss_one (ws_setL (we_pu (S0 H2 _ bs K2) (pu_call DA.df hr (pua_cons (pu_ixL (pu_sBounds F (pu_var 0)) (pu_var 2) (atI_nat' (at1 h3) rfl)) (pua_cons (pu_ixL (pu_sBounds F (pu_var 0)) (pu_var 1) (atI_nat' (at1 h4) rfl)) pua_nil)) ⟨bp, bq, rfl, by omega, by omega, rfl⟩) fun y2 H3 s3 a3 => we_fld (we_name 0 rfl ⟨o, C, dx, _, V.ref c, rfl, s3 _ _ K2.ho, F.cls, F.n3, rfl, ?_⟩)))
  have K3 := K2.mono s3
  obtain ⟨us3, hus3, al3⟩ := K3.hc
  have hp3 : p < us3.length := by rw [al3.length, List.length_map]; exact (List.getElem?_eq_some_iff.mp h3).1
  refine we_name 2 rfl ⟨c, us3, p, p, rfl, rfl, hus3, ixN_nat' hp3 rfl, ?_⟩
  have K4 := K3.setC (vs := us3.set p y2) (bs' := bs.set p (addI bp bq)) (by rw [ls_map_set]; exact al3.set a3 p)
  exact q' _ K4 (f2.trans ((Fr.of s3).trans (.upd (by simp))))
end
end K47
/-! C4: _settle -/
namespace K47
open PySem PySem.Spec PyProof.Rows L2
section
variable {X : Cx} {c : Expr} {body : List Stmt} {pos : Pos} {σ : L2.St} {H : Hp} {D : Ends}
theorem WT.mono {Q Q' : Bool → Hp → Prop} (h : WT X c σ H Q) (q : ∀ b H', Q b H' → Q' b H') : WT X c σ H Q' := fun pins s I => thn (h pins s I) fun u s' ⟨H', I', z⟩ => ⟨H', I', q _ _ z⟩
theorem wt_pu {Γ : Gm} {b : Bool} {Q : Bool → Hp → Prop} (S : Sl H σ Γ) (h : PuT X Γ c b) (q : ∀ H', Same H H' → Q b H') : WT X c σ H Q := h σ H S Q q
theorem ws_while (Pv : L2.St → Hp → Prop) (μ : L2.St → Hp → Nat) (h0 : Pv σ H) (hs : ∀ σ H, Pv σ H → WT X c σ H fun b H1 => if b = true then WSs X body { D with nx := fun σ' H' => Pv σ' H' ∧ μ σ' H' < μ σ H, ct := fun σ' H' => Pv σ' H' ∧ μ σ' H' < μ σ H, bk := D.nx } σ H1 else D.nx σ H1)
    (hp : PassesOwn (model X.prog X.w) X.A X.env X.xe := by exact PassesOwn.never) : WS X (.While c body [] pos) D σ H :=
  ws_of (ps_while hp pt_wt pss_wss) (while_by Pv μ h0 hs fun σ H Q Q' q h => h.mono q)
end
def muL (σ : L2.St) : Nat := match σ[2]? with
  | some (some (V.int l)) => l.toNat + 1
  | _ => 0
theorem ls_len {H : Hp} {a : Addr} {ds : List PyData} (h : Ls H a ds) : ∃ vs, H a = some (.lst vs) ∧ vs.length = ds.length := let ⟨vs, h1, h2⟩ := h; ⟨vs, h1, h2.length⟩
def vO : Option Int → V
  | none => .non
  | some i => .int i
theorem im_vO {H : Hp} {v : V} {o : Option Int} (h : Im H v (oD o)) : v = vO o := by
  cases o with
  | none => cases h; rfl
  | some i => cases h; rfl
theorem vO_im {H : Hp} {o : Option Int} : Im H (vO o) (oD o) := by
  cases o with
  | none => exact .non
  | some i => exact .int i
theorem putK_F {fl : List (Nat × Nat)} {l p : Nat} (h : lkF fl l = none) : putK (encK (encF fl)) (Sum.inl (l : Int)) (V.int (p : Nat)) = encK (encF (fl ++ [(l, p)])) := by
  have hno : ((encK (encF fl)).any fun kv => decide (kv.1 = Sum.inl (l : Int))) = false := by
    rw [List.any_eq_false]
    intro kv hkv
    unfold encK encF at hkv
    rw [List.map_map] at hkv
    obtain ⟨q, hq, rfl⟩ := List.mem_map.mp hkv
    simp only [Function.comp, decide_eq_true_eq]
    intro e
    have e : (q.1 : Int) = (l : Int) := Sum.inl.inj e
    have e : q.1 = l := by omega
    unfold lkF at h
    rw [Option.map_eq_none_iff, List.find?_eq_none] at h
    exact h q hq (by simp [e])
  unfold putK
  rw [if_neg (by rw [hno]; simp)]
  simp [encK, encF]
theorem KA.setD {C : Addr} {H : Hp} {o dx a b c d : Addr} {os : List Sim} {cs bs : List (List Int)} {fl fl' : List (Nat × Nat)} (A : KA C H o dx a b c d os cs bs fl) : KA C (upd H d (.dK (encK (encF fl')))) o dx a b c d os cs bs fl' :=
  have off : ∀ {x : Addr} {ds : List PyData}, Ls H x ds → Ls (upd H d (.dK (encK (encF fl')))) x ds := fun ⟨vs, h1, h2⟩ => ⟨vs, by rw [upd_ne (ne_of h1 A.hd fun z => nomatch z)]; exact h1, h2.mono (.mut A.hd fun _ z => nomatch z)⟩
  ⟨A.ab, A.ac, A.bc, by rw [upd_ne (ne_of A.ho A.hd fun z => nomatch z)]; exact A.ho, off A.ha, off A.hb, off A.hc, upd_same⟩
/-- a new dict -/
theorem KA.newD {C : Addr} {H : Hp} {o dx a b c d d' : Addr} {os : List Sim} {cs bs : List (List Int)} {fl fl' : List (Nat × Nat)} (A : KA C H o dx a b c d os cs bs fl) (hd' : H d' = some (.dK (encK (encF fl')))) : KA C (upd H o (.ins C dx (kf a b c d'))) o dx a b c d' os cs bs fl' :=
  have off : ∀ {x : Addr} {ds : List PyData}, Ls H x ds → Ls (upd H o (.ins C dx (kf a b c d'))) x ds := fun ⟨vs, h1, h2⟩ => ⟨vs, by rw [upd_ne (ne_of h1 A.ho fun z => nomatch z)]; exact h1, h2.mono (.mut A.ho fun _ z => nomatch z)⟩
  ⟨A.ab, A.ac, A.bc, upd_same, off A.ha, off A.hb, off A.hc, by rw [upd_ne (ne_of hd' A.ho fun z => nomatch z)]; exact hd'⟩
theorem Fr.fresh {o a b c d d' : Addr} {H H1 H2 : Hp} (f : Fr [o, a, b, c, d] H H1) (g : Fr [o, a, b, c, d'] H1 H2) (n : H d' = none) : Fr [o, a, b, c, d] H H2 := fun x u hx h => g x u (fun m => by
  simp at hx m
  rcases m with rfl | rfl | rfl | rfl | rfl
  · exact hx.1 rfl
  · exact hx.2.1 rfl
  · exact hx.2.2.1 rfl
  · exact hx.2.2.2.1 rfl
  · rw [n] at h; cases h) (f x u hx h)
section
variable {P : Program} {w : World} {K : PySem.W.Frag} {mg : Str → Option Value} {base : Heap} {C : Addr}
def spSet (C : Addr) : Sp := fun vs H Q _ => ∃ o dx a b c d os cs bs fl, vs = [V.ref o] ∧ KA C H o dx a b c d os cs bs fl ∧ OV os ∧ KV os cs bs ∧
  ∀ H' d' cs' bs' fl', KA C H' o dx a b c d' os cs' bs' fl' → KV os cs' bs' → RP bs' fl' os.length → Fr [o, a, b, c, d] H H' → H d' = none → Q .non H'
theorem sc_539 : FnScope ["self", "place", "end"] ["self"] (defScope (inClass (top 53) 9)) := ⟨rfl, rfl, rfl, by decide +kernel, rfl, by decide +kernel, by decide +kernel⟩
theorem ok_Ksettle (M : Mg mg) (F : KF K C) (S : StandsM K C "_settle" "Kept._settle" 53 9) (DL : Df0 P w K mg base "last_of" 1 (spU rLast)) (DA : Mt P w K mg base C "_add" 2 (spAdd C)) : Mt P w K mg base C "_settle" 3 (spSet C) := by
  refine mk_meth S sc_539 (fun vs H Q E h => by obtain ⟨_, _, _, _, _, _, _, _, _, _, rfl, _⟩ := h; rfl) (fun _ _ _ _ _ _ us hl => match us, hl with | [_], _ => rfl) fun f cdv A outer s H vs Q E hr h => ?_
  obtain ⟨o, dx, a, b, c, d, os, cs, bs, fl, rfl, KH, OVh, KVh, q'⟩ := h
  have hu1 : (A.deeper (envOfC "Kept._settle" (defScope (inClass (top 53) 9)) s.heap.objs.size f cdv)).units + 1 < cLine := by have := hr.un; omega
  have hos := OVh.len
  -- slots by their first
  have SL : ∀ (H' : Hp) (σ : L2.St) (cs' bs' : List (List Int)) (d' : Addr) (fl' : List (Nat × Nat)), σ.length = 3 → σ[0]? = some (some (V.ref o)) → KA C H' o dx a b c d' os cs' bs' fl' → Sl H' σ [some (sf C os cs' bs' fl'), none, none] := fun H' σ cs' bs' d' fl' hl h0 A' =>
    ⟨hl.symm, fun i r e => by
      match i with
      | 0 => cases e; exact ⟨_, h0, A'.sf⟩
      | 1 => cases e
      | 2 => cases e
      | i + 3 => cases e⟩
  have hv : L2.start ["self", "place", "end"] [V.ref o] = [some (.ref o), none, none] := rfl
  rw [hv]
  refine wss_cons (ws_fld (we_of pe_dnewK fun d' hd' => we_name 0 rfl ⟨o, C, dx, kf a b c d, rfl, (same_new hd') _ _ KH.ho, F.cls, F.n4, by simp [kf], ?_⟩))
  have K1 := (KH.mono (same_new hd' (o := .dK []))).newD (d' := d') (fl' := []) upd_same
  have f1 : Fr [o, a, b, c, d] H (upd (upd H d' (.dK [])) o (.ins C dx (kf a b c d'))) := (Fr.of (same_new hd')).trans (.upd (by simp))
  have e1 : putF "_fillers" (V.ref d') (kf a b c d) = kf a b c d' := rfl
  rw [e1]
  generalize upd (upd H d' (.dK [])) o (.ins C dx (kf a b c d')) = H1 at K1 f1
  have at1 : ∀ {xs : List (List Int)} {n : Nat} {x : List Int}, xs[n]? = some x → (xs.map eS)[n]? = some (eS x) := fun h => by rw [List.getElem?_map, h]; rfl
  refine wss_one (ws_for (g := gName 1) (Iq := fun _ => False) (srcS_rng1 M (SL H1 _ cs bs d' [] rfl rfl K1) (pu_lenL M (pu_sOrder F (pu_var 0))) (by simp; omega)) (pg_name sc_539.nd rfl (Or.inl rfl)) fun pq H2 s2 hpq => ?_)
  have hpn : pq = none := by
    cases pq with
    | none => rfl
    | some x => exact absurd (hpq x rfl).1 id
  subst hpn
  refine ⟨fun i σ' H' => σ'.length = 3 ∧ σ'[0]? = some (some (V.ref o)) ∧ Fr [o, a, b, c, d'] H2 H' ∧ ∃ cs' bs' fl', KA C H' o dx a b c d' os cs' bs' fl' ∧ KV os cs' bs' ∧ RP bs' fl' i, ⟨rfl, rfl, .of (Same.refl _), cs, bs, [], K1.mono s2, KVh, .zero bs⟩, fun i σ' H' _ hP => ⟨hP.2.2.1.tx (K1.mono s2).notup, fun x e => nomatch e⟩, fun i dd σ' H' x H3 hdd hP s3 im => ?_, fun σ' H' hP => ?_⟩
  · have hi : i < os.length := by
      have := (List.getElem?_eq_some_iff.mp hdd).1
      rw [rngD_len] at this; simpa using this
    rw [rngD_at (by simpa using hi)] at hdd
    cases hdd
    have ex : x = V.int (i : Nat) := by
      have e0 : (0 : Int) + (i : Nat) = (i : Nat) := by omega
      rw [e0] at im
      cases im; rfl
    subst ex
    obtain ⟨hl, h0, fr, cs', bs', fl', KA', KV', RP'⟩ := hP
    have KA3 := KA'.mono s3
    obtain ⟨ci, bi, hci, hbi⟩ := KV'.both hi
    show WSs _ _ _ (σ'.set 1 (some (V.int (i : Nat)))) H3
    have hl1 : (σ'.set 1 (some (V.int (i : Nat)))).length = 3 := by rw [List.length_set]; exact hl
    have h01 : (σ'.set 1 (some (V.int (i : Nat))))[0]? = some (some (V.ref o)) := by rw [List.getElem?_set_ne (by decide)]; exact h0
    have h11 : (σ'.set 1 (some (V.int (i : Nat))))[1]? = some (some (V.int (i : Nat))) := List.getElem?_set_self (by omega)
    generalize σ'.set 1 (some (V.int (i : Nat))) = σ1 at hl1 h01 h11
    -- slots with the place
    have SP : ∀ (H' : Hp) (σ : L2.St) (cs' bs' : List (List Int)) (fl' : List (Nat × Nat)), σ.length = 3 → σ[0]? = some (some (V.ref o)) → σ[1]? = some (some (V.int (i : Nat))) → KA C H' o dx a b c d' os cs' bs' fl' → Sl H' σ [some (sf C os cs' bs' fl'), some (.d (.int (i : Nat))), none] := fun H' σ cs' bs' fl' hl h0 h1 A' =>
      (SL H' σ cs' bs' d' fl' hl h0 A').add 1 (r := .d (.int (i : Nat))) h1 (.int _)
    -- end = last_of(self._bounds[place])
    refine wss_cons (ws_set 2 sc_539.nd (SP H3 σ1 _ _ _ hl1 h01 h11 KA3) (pu_call DL.df (hr.mono (by decide)) (pua_cons (pu_ixL (pu_sBounds F (pu_var 0)) (pu_var 1) (atI_nat' (at1 hbi) rfl)) pua_nil) ⟨bi, rfl, rfl⟩) fun v H4 s4 a4 => ?_)
    have ev := im_vO a4
    subst ev
    have KA4 := KA3.mono s4
    have f4 : Fr [o, a, b, c, d'] H2 H4 := fr.trans (.of (s3.trans s4))
    have hl2 : (σ1.set 2 (some (vO bi.getLast?))).length = 3 := by rw [List.length_set]; exact hl1
    have h02 : (σ1.set 2 (some (vO bi.getLast?)))[0]? = some (some (V.ref o)) := by rw [List.getElem?_set_ne (by decide)]; exact h01
    have h12 : (σ1.set 2 (some (vO bi.getLast?)))[1]? = some (some (V.int (i : Nat))) := by rw [List.getElem?_set_ne (by decide)]; exact h11
    have h22 : (σ1.set 2 (some (vO bi.getLast?)))[2]? = some (some (vO bi.getLast?)) := List.getElem?_set_self (by omega)
    generalize σ1.set 2 (some (vO bi.getLast?)) = σ2 at hl2 h02 h12 h22
    -- the while
    refine wss_cons (ws_while (fun σ H => σ.length = 3 ∧ σ[0]? = some (some (V.ref o)) ∧ σ[1]? = some (some (V.int (i : Nat))) ∧ Fr [o, a, b, c, d'] H2 H ∧ ∃ cs bs bp, KA C H o dx a b c d' os cs bs fl' ∧ KV os cs bs ∧ RP bs fl' i ∧ bs[i]? = some bp ∧ σ[2]? = some (some (vO bp.getLast?)))
      (fun σ _ => muL σ) ⟨hl2, h02, h12, f4, cs', bs', bi, KA4, KV', RP', hbi, h22⟩ fun σ H5 ⟨g1, g2, g3, g4, cs5, bs5, bp, KA5, KV5, RP5, hbp, g5⟩ => ?_)
    have S5 := (SP H5 σ cs5 bs5 fl' g1 g2 g3 KA5).add 2 (r := .d (oD bp.getLast?)) g5 vO_im
    refine wt_pu S5 (put_inKN hu1 (pu_var 2) (pu_sFillers F (pu_var 0))) fun H6 s6 => ?_
    have KA6 := KA5.mono s6
    have f6 : Fr [o, a, b, c, d'] H2 H6 := g4.trans (.of s6)
    have S6 := S5.mono s6
    obtain ⟨cp, hcp⟩ : ∃ cp, cs5[i]? = some cp := ⟨_, List.getElem?_eq_getElem (by rw [KV5.lc]; exact hi)⟩
    cases el : bp.getLast? with
    | none =>
      -- no end: the while is over; nothing is put
      rw [el] at S6
      rw [if_neg (by simp)]
      refine wss_one (ws_ifN S6 ((put_cmp op_notN rv_notN (by rfl) (pu_var 2) pu_non).to rfl) fun H7 s7 => ?_)
      exact ⟨g1, g2, f6.trans (.of s7), cs5, bs5, fl', KA6.mono s7, KV5, RP5.next0 hbp el⟩
    | some li =>
      have hrow := KV5.row OVh hbp (List.mem_of_getLast? el)
      obtain ⟨l, rfl⟩ := Int.eq_ofNat_of_zero_le hrow.1
      rw [el] at S6 g5
      have eb : ((some ((l : Nat) : Int)).bind (lkK (encF fl'))) = oI (lkF fl' l) := lkK_encF fl' l
      have eb' : ((some (Int.ofNat l)).bind (lkK (encF fl'))) = oI (lkF fl' l) := eb
      first | rw [eb'] | rw [eb] | simp only [eb, eb']
      cases ef : lkF fl' l with
      | some q =>
        rw [if_pos (show (oI (some q)).isSome = true from rfl)]
        obtain ⟨hq, bq, hbq, hlq⟩ := (RP5.iff l q).mp ef
        obtain ⟨cq, hcq⟩ : ∃ cq, cs5[q]? = some cq := ⟨_, List.getElem?_eq_getElem (by rw [KV5.lc]; omega)⟩
        have hrq := KV5.row OVh hbq (List.mem_of_getLast? hlq)
        have hdm : dm os q = dm os i := by
          have e1 : dm os (Int.ofNat l) + 1 = dm os i := hrow.2.2
          have e2 : dm os ((l : Nat) : Int) + 1 = dm os q := hrq.2.2
          have e3 : dm os (Int.ofNat l) = dm os ((l : Nat) : Int) := rfl
          omega
        -- self._add(self._fillers[end], place)
        refine wss_cons (ws_expr (we_meth DA F.cls (hr.mono (by decide)) (we_name 0 g2 ⟨o, dx, _, rfl, KA6.ho, rfl, wa_cons (we_pu S6 (pu_getK hu1 (pu_sFillers F (pu_var 0)) (pu_var 2) (v := (q : Nat)) (by
          have : lkK (encF fl') ((l : Nat) : Int) = oI (lkF fl' l) := lkK_encF fl' l
          rw [ef] at this; exact this)) fun v7 H7 s7 a7 => wa_cons (we_pu (S6.mono s7) (pu_var 1) fun v8 H8 s8 a8 => wa_nil fun E' => ?_))⟩)))
        cases a7; cases a8
        have KA8 := KA6.mono (s7.trans s8)
        refine ⟨o, dx, a, b, c, d', os, cs5, bs5, fl', q, i, cp, cq, bp, bq, rfl, KA8, hcp, hcq, hbp, hbq, Nat.le_trans (KV5.clen OVh hcp) (by decide), Nat.le_trans (KV5.clen OVh hcq) (by decide), Nat.le_trans (KV5.blen OVh hcp hbp) (by decide), Nat.le_trans (KV5.blen OVh hcq hbq) (by decide), fun H9 KA9 f9 => ?_⟩
        have KV9 := KV5.add hq hcp hcq hbp hbq hdm
        have hbn : (bs5.set i (addI bp bq))[i]? = some (addI bp bq) := List.getElem?_set_self (List.getElem?_eq_some_iff.mp hbp).1
        have f29 : Fr [o, a, b, c, d'] H2 H9 := (f6.trans (.of (s7.trans s8))).trans f9
        -- end = last_of(..)
        refine wss_one (ws_set 2 sc_539.nd (SP H9 σ _ _ _ g1 g2 g3 KA9) (pu_call DL.df (hr.mono (by decide)) (pua_cons (pu_ixL (pu_sBounds F (pu_var 0)) (pu_var 1) (atI_nat' (at1 hbn) rfl)) pua_nil) ⟨addI bp bq, rfl, rfl⟩) fun v H10 s10 a10 => ?_)
        have ev := im_vO a10
        subst ev
        have hset : (σ.set 2 (some (vO (addI bp bq).getLast?)))[2]? = some (some (vO (addI bp bq).getLast?)) := List.getElem?_set_self (by omega)
        refine ⟨⟨by rw [List.length_set]; exact g1, by rw [List.getElem?_set_ne (by decide)]; exact g2, by rw [List.getElem?_set_ne (by decide)]; exact g3, f29.trans (.of s10), _, _, _, KA9.mono s10, KV9, RP5.set _, hbn, hset⟩, ?_⟩
        show muL _ < muL _
        unfold muL
        rw [hset, g5]
        cases en : (addI bp bq).getLast? with
        | none => exact Nat.succ_pos _
        | some l2 =>
          have hm := mem_addI.mp (List.mem_of_getLast? en)
          have le1 := asc_last (KV5.bn i bp cp hbp hcp).1 el
          have le2 := asc_last (KV5.bn q bq cq hbq hcq).1 hlq
          have m1 : (Int.ofNat l) ∈ bp := List.mem_of_getLast? el
          have m2 : ((l : Nat) : Int) ∈ bq := List.mem_of_getLast? hlq
          have hne : l2 ≠ (l : Nat) := fun z => by
            subst z
            rcases hm with z | z
            · exact z.2 m2
            · exact z.2 m1
          have h0 : 0 ≤ l2 := by
            rcases hm with z | z
            · exact (KV5.row OVh hbp z.1).1
            · exact (KV5.row OVh hbq z.1).1
          have hle : l2 ≤ (l : Nat) := by
            rcases hm with z | z
            · exact le1 l2 z.1
            · exact le2 l2 z.1
          show l2.toNat + 1 < (Int.ofNat l).toNat + 1
          have : (Int.ofNat l).toNat = l := rfl
          omega
      | none =>
        rw [if_neg (show ¬ (oI none).isSome = true by simp [oI])]
        -- self._fillers[end] = place
        refine wss_one (ws_if (b := true) S6 ((put_cmp op_notN rv_notN (by rfl) (pu_var 2) pu_non).to rfl) (fun _ H7 s7 => ?_) fun h => nomatch h)
        have KA7 := KA6.mono s7
        refine wss_one (ws_putD hu1 (we_pu (S6.mono s7) (pu_var 1) fun v8 H8 s8 a8 => we_fld (we_name 0 g2 ⟨o, C, dx, _, V.ref d', rfl, s8 _ _ KA7.ho, F.cls, F.n4, rfl, ?_⟩)))
        cases a8
        have KA8 := KA7.mono s8
        refine we_name 2 g5 ⟨d', upd H8 d' (.dK (putK (encK (encF fl')) (Sum.inl (l : Int)) (V.int (i : Nat)))), rfl, DPut.k (k := Sum.inl (l : Int)) KA8.hd ?_, ?_⟩
        · have := RP5.len
          have e : (encK (encF fl')).length = fl'.length := by simp [encK, encF]
          rw [e]
          exact Nat.lt_of_le_of_lt (show fl'.length ≤ 100 by omega) (by decide)
        · rw [putK_F ef]
          exact ⟨g1, g2, (f6.trans (.of (s7.trans s8))).trans (.upd (by simp)), cs5, bs5, _, KA8.setD, KV5, RP5.next1 hbp el ef⟩
  · obtain ⟨hl, h0, fr, cs', bs', fl', KA', KV', RP'⟩ := hP
    have el : (rngD 0 ((os.map eS).length : Int).toNat).length = os.length := by rw [rngD_len]; simp
    rw [el] at RP'
    have nd' : H d' = none := hd'
    exact q' H' d' cs' bs' fl' KA' KV' RP' ((f1.trans (.of s2)).fresh fr nd') nd'
end
end K47
/-! C5: put, drop -/
namespace K47
open PySem PySem.Spec PyProof.Rows L2
theorem fol_of {os : List Sim} {s : Sim} (O : OV (os ++ [s])) : Fol os s := by
  refine ⟨by have := O.len; rw [List.length_append] at this; simp at this; omega, O.sx s (by simp), fun m => ?_, fun f hf => ?_⟩
  · have := (List.nodup_append.mp O.nd).2.2 s m s (by simp)
    exact this rfl
  · have := O.fb os.length s (by simp) f hf
    rwa [List.take_append_of_le_length (Nat.le_refl _), List.take_length] at this
theorem map_snoc {α : Type} (f : α → PyData) (xs : List α) (x : α) : (xs ++ [x]).map f = xs.map f ++ [f x] := by simp
section
variable {P : Program} {w : World} {K : PySem.W.Frag} {mg : Str → Option Value} {base : Heap} {C : Addr}
def spPut (C : Addr) : Sp := fun vs H Q _ => ∃ o dx a b c d os cs bs fl, ∃ (s : Sim) (v : V), vs = [V.ref o, v] ∧ Im H v (eS s) ∧ KA C H o dx a b c d os cs bs fl ∧ OV (os ++ [s]) ∧ KV os cs bs ∧
  ∀ H' d' cs' bs' fl', KA C H' o dx a b c d' (os ++ [s]) cs' bs' fl' → KV (os ++ [s]) cs' bs' → RP bs' fl' (os ++ [s]).length → Fr [o, a, b, c, d] H H' → H d' = none → Q .non H'
theorem sc_534 : FnScope ["self", "simplex", "place"] ["self", "simplex"] (defScope (inClass (top 53) 4)) := ⟨rfl, rfl, rfl, by decide +kernel, rfl, by decide +kernel, by decide +kernel⟩
theorem ok_Kput (M : Mg mg) (F : KF K C) (S : StandsM K C "put" "Kept.put" 53 4) (DC : Df0 P w K mg base "can_follow" 3 (spU rFol)) (DB : Df0 P w K mg base "boundary" 2 (spU rBd)) (DS : Mt P w K mg base C "_settle" 3 (spSet C)) : Mt P w K mg base C "put" 4 (spPut C) := by
  refine mk_meth S sc_534 (fun vs H Q E h => by obtain ⟨_, _, _, _, _, _, _, _, _, _, _, _, rfl, _⟩ := h; rfl) (fun _ _ _ _ _ _ us hl => match us, hl with | [_, _], _ => rfl) fun f cdv A outer s H vs Q E hr h => ?_
  obtain ⟨o, dx, a, b, c, d, os, cs, bs, fl, t, v, rfl, imv, KH, OVh, KVh, q'⟩ := h
  have hos := OVh.len
  rw [List.length_append] at hos
  have hos : os.length + 1 ≤ 60 := by simpa using hos
  have hsl : ∀ (os : List Sim) (cs bs : List (List Int)) (fl : List (Nat × Nat)) (H' : Hp) (pl : Option V), KA C H' o dx a b c d os cs bs fl → Im H' v (eS t) → Sl H' [some (.ref o), some v, pl] [some (sf C os cs bs fl), some (.d (eS t)), none] := fun os cs bs fl H' pl A' im' =>
    ⟨rfl, fun i r e => by
      match i with
      | 0 => cases e; exact ⟨_, rfl, A'.sf⟩
      | 1 => cases e; exact ⟨_, rfl, im'⟩
      | 2 => cases e
      | i + 3 => cases e⟩
  have hv : L2.start ["self", "simplex", "place"] [V.ref o, v] = [some (.ref o), some v, none] := rfl
  rw [hv]
  refine wss_cons (ws_set 2 sc_534.nd (hsl os cs bs fl H none KH imv) (pu_lenL M (pu_sOrder F (pu_var 0))) fun v1 H1 s1 a1 => ?_)
  cases a1
  have e1 : ([some (V.ref o), some v, none] : L2.St).set 2 (some (V.int ((os.map eS).length : Nat))) = [some (.ref o), some v, some (.int (os.length : Nat))] := by simp
  rw [e1]
  have K1 := KH.mono s1
  have im1 := imv.mono (.of s1)
  -- slots with the place
  have SP : ∀ (os' : List Sim) (cs' bs' : List (List Int)) (H' : Hp), KA C H' o dx a b c d os' cs' bs' fl → Im H' v (eS t) → Sl H' [some (.ref o), some v, some (.int (os.length : Nat))] [some (sf C os' cs' bs' fl), some (.d (eS t)), some (.d (.int (os.length : Nat)))] := fun os' cs' bs' H' A' im' => (hsl os' cs' bs' fl H' _ A' im').add 2 (r := .d (.int (os.length : Nat))) rfl (.int _)
  refine wss_cons (ws_ifN (SP os cs bs H1 K1 im1) ((put_not (pu_val (pu_call DC.df hr (pua_cons (pu_sOrder F (pu_var 0)) (pua_cons (pu_var 1) pua_nil)) ⟨os, t, fol_of OVh, rfl, rfl⟩))).to rfl) fun H2 s2 => ?_)
  have K2 := K1.mono s2
  have im2 := im1.mono (.of s2)
  have f2 : Fr [o, a, b, c, d] H H2 := .of (s1.trans s2)
  -- self._order.append(simplex)
  refine wss_cons (we_append (we_fld (we_name 0 rfl ⟨o, C, dx, _, V.ref a, rfl, K2.ho, F.cls, F.n1, rfl, ?_⟩)))
  obtain ⟨ua, hua, ala⟩ := K2.ha
  refine ⟨a, rfl, ⟨ua, hua⟩, we_name 1 rfl ⟨ua, hua, ?_, ?_⟩⟩
  · rw [ala.length, List.length_map]; exact Nat.lt_of_le_of_lt (show os.length ≤ 60 by omega) (by decide)
  have K3 := K2.setA (vs := ua ++ [v]) (os' := os ++ [t]) (by rw [map_snoc]; exact ala.append (.cons im2 .nil))
  have f3 : Fr [o, a, b, c, d] H (upd H2 a (.lst (ua ++ [v]))) := f2.trans (.upd (by simp))
  have im3 : Im (upd H2 a (.lst (ua ++ [v]))) v (eS t) := im2.mono (.mut hua fun _ z => nomatch z)
  generalize upd H2 a (.lst (ua ++ [v])) = H3 at K3 f3 im3
  -- self._chains.append((place,))
  refine wss_cons (we_append (we_fld (we_name 0 rfl ⟨o, C, dx, _, V.ref b, rfl, K3.ho, F.cls, F.n2, rfl, ?_⟩)))
  obtain ⟨ub, hub, alb⟩ := K3.hb
  refine ⟨b, rfl, ⟨ub, hub⟩, we_pu (SP _ _ _ H3 K3 im3) (r := .d (eS [(os.length : Int)])) ((pu_tup (ds := [.int (os.length : Nat)]) (pua_cons (pu_var 2) pua_nil) (by simp)).to rfl) fun y4 H4 s4 a4 => ?_⟩
  refine ⟨ub, s4 _ _ hub, ?_, ?_⟩
  · rw [alb.length, List.length_map, KVh.lc]; exact Nat.lt_of_le_of_lt (show os.length ≤ 60 by omega) (by decide)
  have K4 := (K3.mono s4).setB (vs := ub ++ [y4]) (cs' := cs ++ [[(os.length : Int)]]) (by rw [map_snoc]; exact (alb.mono (.of s4)).append (.cons a4 .nil))
  have f4 : Fr [o, a, b, c, d] H (upd H4 b (.lst (ub ++ [y4]))) := f3.trans ((Fr.of s4).trans (.upd (by simp)))
  have im4 : Im (upd H4 b (.lst (ub ++ [y4]))) v (eS t) := (im3.mono (.of s4)).mono (.mut (s4 _ _ hub) fun _ z => nomatch z)
  generalize upd H4 b (.lst (ub ++ [y4])) = H5 at K4 f4 im4
  -- self._bounds.append(boundary(self._order, (place,)))
  have hat : (os ++ [t])[os.length]? = some t := by simp
  refine wss_cons (we_append (we_fld (we_name 0 rfl ⟨o, C, dx, _, V.ref c, rfl, K4.ho, F.cls, F.n3, rfl, ?_⟩)))
  obtain ⟨uc, huc, alc⟩ := K4.hc
  refine ⟨c, rfl, ⟨uc, huc⟩, we_pu (SP _ _ _ H5 K4 im4) (r := .d (eS (bd (os ++ [t]) t))) (pu_call DB.df (hr.mono (by decide)) (pua_cons (pu_sOrder F (pu_var 0)) (pua_cons ((pu_tup (ds := [.int (os.length : Nat)]) (pua_cons (pu_var 2) pua_nil) (by simp)).to (r' := .d (eS [(os.length : Int)])) rfl) pua_nil)) ⟨os ++ [t], os.length, t, rfl, hat, OVh.sx t (by simp), fun g hg => List.mem_of_mem_take (OVh.fb _ _ hat g hg), rfl⟩) fun y6 H6 s6 a6 => ?_⟩
  refine ⟨uc, s6 _ _ huc, ?_, ?_⟩
  · rw [alc.length, List.length_map, KVh.lb]; exact Nat.lt_of_le_of_lt (show os.length ≤ 60 by omega) (by decide)
  have K6 := (K4.mono s6).setC (vs := uc ++ [y6]) (bs' := bs ++ [bd (os ++ [t]) t]) (by rw [map_snoc]; exact (alc.mono (.of s6)).append (.cons a6 .nil))
  have f6 : Fr [o, a, b, c, d] H (upd H6 c (.lst (uc ++ [y6]))) := f4.trans ((Fr.of s6).trans (.upd (by simp)))
  generalize upd H6 c (.lst (uc ++ [y6])) = H7 at K6 f6
  -- self._settle()
  refine wss_one (ws_expr (we_meth0 DS F.cls hr (we_name 0 rfl ⟨o, dx, _, rfl, K6.ho, rfl, fun E' => ⟨o, dx, a, b, c, d, _, _, _, fl, rfl, K6, OVh, KVh.put OVh, fun H8 d' cs' bs' fl' K8 V8 R8 f8 n8 => ?_⟩⟩)))
  exact q' H8 d' cs' bs' fl' K8 V8 R8 (f6.trans f8) (by
    cases e : H d' with
    | none => rfl
    | some u =>
      by_cases hm : d' ∈ [o, a, b, c, d]
      · have h8 := K8.hd
        simp at hm
        exfalso
        have h1 := K8.ho
        obtain ⟨_, h2, _⟩ := K8.ha
        obtain ⟨_, h3, _⟩ := K8.hb
        obtain ⟨_, h4, _⟩ := K8.hc
        rcases hm with z | z | z | z | z
        · rw [z, h1] at h8; cases h8
        · rw [z, h2] at h8; cases h8
        · rw [z, h3] at h8; cases h8
        · rw [z, h4] at h8; cases h8
        · rw [z, K6.hd] at n8; cases n8
      · have := f6 d' u hm e
        rw [n8] at this; cases this)
/-! ### drop -/
def spDrop (C : Addr) : Sp := fun vs H Q _ => ∃ o dx a b c d os cs bs fl, ∃ s : Sim, vs = [V.ref o] ∧ KA C H o dx a b c d (os ++ [s]) cs bs fl ∧ OV (os ++ [s]) ∧ KV (os ++ [s]) cs bs ∧
  ∀ v H' d' cs' bs' fl', KA C H' o dx a b c d' os cs' bs' fl' → KV os cs' bs' → RP bs' fl' os.length → Fr [o, a, b, c, d] H H' → H d' = none → Q v H'
theorem sc_535 : FnScope ["self", "simplex"] ["self"] (defScope (inClass (top 53) 5)) := ⟨rfl, rfl, rfl, by decide +kernel, rfl, by decide +kernel, by decide +kernel⟩
theorem snoc_of {α : Type} {xs : List α} {n : Nat} (h : xs.length = n + 1) : ∃ ys y, xs = ys ++ [y] ∧ ys.length = n := by
  refine ⟨xs.dropLast, xs.getLast (by intro z; rw [z] at h; simp at h), (List.dropLast_concat_getLast _).symm, by simp [h]⟩
theorem im_pop {H : Hp} {vs : List V} {ds : List PyData} {d : PyData} (a : ImAll H vs (ds ++ [d])) : ∃ us u, vs = us ++ [u] ∧ ImAll H us ds ∧ Im H u d := by
  induction ds generalizing vs with
  | nil =>
    cases a with
    | cons a b => cases b; exact ⟨[], _, rfl, .nil, a⟩
  | cons x r ih =>
    cases a with
    | cons a b =>
      obtain ⟨us, u, rfl, h1, h2⟩ := ih b
      exact ⟨_ :: us, u, rfl, .cons a h1, h2⟩
theorem fr_none {o a b c d d' dx : Addr} {H H7 H8 : Hp} {os os' : List Sim} {cs bs cs' bs' : List (List Int)} {fl fl' : List (Nat × Nat)} (f6 : Fr [o, a, b, c, d] H H7) (K6 : KA C H7 o dx a b c d os cs bs fl) (K8 : KA C H8 o dx a b c d' os' cs' bs' fl') (n8 : H7 d' = none) : H d' = none := by
  cases e : H d' with
  | none => rfl
  | some u =>
    by_cases hm : d' ∈ [o, a, b, c, d]
    · have h8 := K8.hd
      simp at hm
      exfalso
      have h1 := K8.ho
      obtain ⟨_, h2, _⟩ := K8.ha
      obtain ⟨_, h3, _⟩ := K8.hb
      obtain ⟨_, h4, _⟩ := K8.hc
      rcases hm with z | z | z | z | z
      · rw [z, h1] at h8; cases h8
      · rw [z, h2] at h8; cases h8
      · rw [z, h3] at h8; cases h8
      · rw [z, h4] at h8; cases h8
      · rw [z, K6.hd] at n8; cases n8
    · have := f6 d' u hm e
      rw [n8] at this; cases this
theorem ok_Kdrop (M : Mg mg) (F : KF K C) (S : StandsM K C "drop" "Kept.drop" 53 5) (DS : Mt P w K mg base C "_settle" 3 (spSet C)) : Mt P w K mg base C "drop" 4 (spDrop C) := by
  refine mk_meth S sc_535 (fun vs H Q E h => by obtain ⟨_, _, _, _, _, _, _, _, _, _, _, rfl, _⟩ := h; rfl) (fun _ _ _ _ _ _ us hl => match us, hl with | [_], _ => rfl) fun f cdv A outer s H vs Q E hr h => ?_
  obtain ⟨o, dx, a, b, c, d, os, cs, bs, fl, t, rfl, KH, OVh, KVh, q'⟩ := h
  have hv : L2.start ["self", "simplex"] [V.ref o] = [some (.ref o), none] := rfl
  rw [hv]
  have S0 : Sl H [some (.ref o), none] [some (sf C (os ++ [t]) cs bs fl), none] := ⟨rfl, fun i r e => by
    match i with
    | 0 => cases e; exact ⟨_, rfl, KH.sf⟩
    | 1 => cases e
    | i + 2 => cases e⟩
  obtain ⟨cs0, c0, rfl, _⟩ := snoc_of (n := os.length) (xs := cs) (by rw [KVh.lc]; simp)
  obtain ⟨bs0, b0, rfl, _⟩ := snoc_of (n := os.length) (xs := bs) (by rw [KVh.lb]; simp)
  refine wss_cons (ws_ifN S0 ((put_not (put_truL (pu_sOrder F (pu_var 0)))).to (by simp)) fun H1 s1 => ?_)
  have K1 := KH.mono s1
  have f1 : Fr [o, a, b, c, d] H H1 := .of s1
  have last_at : ∀ {us : List V} {u : V}, (us ++ [u])[(us ++ [u]).length - 1]? = some u := by intro us u; simp
  -- self._chains.pop()
  refine wss_cons (ws_expr (we_pop (we_fld (we_name 0 rfl ⟨o, C, dx, _, V.ref b, rfl, K1.ho, F.cls, F.n2, rfl, ?_⟩))))
  obtain ⟨vb, hvb, alb⟩ := K1.hb
  rw [map_snoc] at alb
  obtain ⟨ub, yb, rfl, alb1, _⟩ := im_pop alb
  refine ⟨b, _, yb, rfl, hvb, last_at, ?_⟩
  rw [List.dropLast_concat]
  have K2 := K1.setB (vs := ub) (cs' := cs0) alb1
  have f2 : Fr [o, a, b, c, d] H (upd H1 b (.lst ub)) := f1.trans (.upd (by simp))
  generalize upd H1 b (.lst ub) = H2 at K2 f2
  -- self._bounds.pop()
  refine wss_cons (ws_expr (we_pop (we_fld (we_name 0 rfl ⟨o, C, dx, _, V.ref c, rfl, K2.ho, F.cls, F.n3, rfl, ?_⟩))))
  obtain ⟨vc', hvc, alc⟩ := K2.hc
  rw [map_snoc] at alc
  obtain ⟨uc, yc, rfl, alc1, _⟩ := im_pop alc
  refine ⟨c, _, yc, rfl, hvc, last_at, ?_⟩
  rw [List.dropLast_concat]
  have K3 := K2.setC (vs := uc) (bs' := bs0) alc1
  have f3 : Fr [o, a, b, c, d] H (upd H2 c (.lst uc)) := f2.trans (.upd (by simp))
  generalize upd H2 c (.lst uc) = H3 at K3 f3
  -- simplex = self._order.pop()
  refine wss_cons (ws_setW 1 sc_535.nd (we_pop (we_fld (we_name 0 rfl ⟨o, C, dx, _, V.ref a, rfl, K3.ho, F.cls, F.n1, rfl, ?_⟩))))
  obtain ⟨va, hva, ala⟩ := K3.ha
  rw [map_snoc] at ala
  obtain ⟨ua, ya, rfl, ala1, _⟩ := im_pop ala
  refine ⟨a, _, ya, rfl, hva, last_at, ?_⟩
  rw [List.dropLast_concat]
  have K4 := K3.setA (vs := ua) (os' := os) ala1
  have f4 : Fr [o, a, b, c, d] H (upd H3 a (.lst ua)) := f3.trans (.upd (by simp))
  generalize upd H3 a (.lst ua) = H4 at K4 f4
  have e1 : ([some (V.ref o), none] : L2.St).set 1 (some ya) = [some (.ref o), some ya] := rfl
  rw [e1]
  -- self._settle(); return simplex
  refine wss_cons (ws_expr (we_meth0 DS F.cls hr (we_name 0 rfl ⟨o, dx, _, rfl, K4.ho, rfl, fun E' => ⟨o, dx, a, b, c, d, _, _, _, fl, rfl, K4, OVh.prefix, KVh.drop OVh, fun H8 d' cs' bs' fl' K8 V8 R8 f8 n8 => ?_⟩⟩)))
  exact wss_one (ws_retW (we_name 1 rfl (q' ya H8 d' cs' bs' fl' K8 V8 R8 (f4.trans f8) (fr_none f4 K4 K8 n8))))
end
end K47
/-! C6: swap -/
namespace K47
open PySem PySem.Spec PyProof.Rows L2
section
variable {X : Cx} {σ : L2.St} {H : Hp} {D : Ends} {g : TG} {tg iter : Expr} {body : List Stmt} {pos : Pos}
/-- for over a tuple of anything -/
theorem ws_forT (hg : PG X tg g) (h : WE X iter σ H fun v H1 => ∃ T xs, v = .ref T ∧ H1 T = some (.tup xs) ∧ ∃ Pv : Nat → L2.St → Hp → Prop, Pv 0 σ H1 ∧ (∀ i σ' H', i ≤ xs.length → Pv i σ' H' → H' T = some (.tup xs)) ∧
      (∀ (i : Nat) (x : V) σ' H', xs[i]? = some x → Pv i σ' H' → g x σ' H' fun σ2 H2 => WSs X body { D with nx := Pv (i + 1), ct := Pv (i + 1), bk := D.nx } σ2 H2) ∧ ∀ σ' H', Pv xs.length σ' H' → D.nx σ' H')
    (hp : PassesOwn (model X.prog X.w) X.A X.env X.xe := by exact PassesOwn.never) (hc : X.calm = true := by rfl) (hs : ∀ x, foldedSetIterable iter X.env x = pure x := by intro _; rfl) : WS X (.For tg iter body [] pos) D σ H := by
  refine ws_of (ps_for hp hc (pi_tup pe_we) hg pss_wss hs) (h.mono fun v H1 ⟨T, xs, e, hT, Pv, h0, hk, hb, hd⟩ => ?_)
  subst e
  exact ⟨T, rfl, ⟨xs, SqT.of hT⟩, for_it walk_tup Pv h0 (fun i σ' H' hi q => SqT.of (hk i σ' H' hi q)) (fun i x σ' H' H2 hi q y => by
    obtain ⟨e1, e2⟩ := y
    subst e1
    exact hb i x σ' H2 e2 q) hd⟩
/-- r[i], r[j] = (r[j], r[i]) -/
theorem ws_swapRow {r1 r2 r3 r4 i1 i2 j1 j2 : Expr} {p1 p2 p3 p4 tp vp : Pos} {k1 k2} (h : WE X (.Tuple [.Subscript r3 j1 p3, .Subscript r4 i2 p4] k2 vp) σ H fun u H1 => ∃ T y x, u = .ref T ∧ H1 T = some (.tup [y, x]) ∧
      WE X r1 σ H1 fun u1 H2 => WE X i1 σ H2 fun u2 H3 => ∃ q vs n a, u1 = .ref q ∧ u2 = .int n ∧ H3 q = some (.lst vs) ∧ ixN vs.length n = some a ∧
      WE X r2 σ (upd H3 q (.lst (vs.set a y))) fun u3 H4 => WE X j2 σ H4 fun u4 H5 => ∃ q2 vs2 n2 a2, u3 = .ref q2 ∧ u4 = .int n2 ∧ H5 q2 = some (.lst vs2) ∧ ixN vs2.length n2 = some a2 ∧ D.nx σ (upd H5 q2 (.lst (vs2.set a2 x))))
    (hc : X.calm = true := by rfl)
    (hs : swapsWithSole [.Tuple [.Subscript r1 i1 p1, .Subscript r2 j2 p2] k1 tp] (.Tuple [.Subscript r3 j1 p3, .Subscript r4 i2 p4] k2 vp) pos.line X.env = pure false := by rfl)
    (hw : swappedStores [.Tuple [.Subscript r1 i1 p1, .Subscript r2 j2 p2] k1 tp] (.Tuple [.Subscript r3 j1 p3, .Subscript r4 i2 p4] k2 vp) X.env = pure none := by rfl)
    (h1 : (assignEach [.Tuple [.Subscript r1 i1 p1, .Subscript r2 j2 p2] k1 tp] X.env).map (·.2) = [assign (.Tuple [.Subscript r1 i1 p1, .Subscript r2 j2 p2] k1 tp) X.env] := by rfl)
    (ha1 : ∀ v, assign (.Subscript r1 i1 p1) X.env v = (do
      let ov ← holding [v] (eval r1 X.env)
      let iv ← holding [v, ov] (eval i1 X.env)
      standAt p1
      holding [v, ov, iv] (setItem ov iv v)
      release [v, ov, iv] []) := by intro _; rfl)
    (ha2 : ∀ v, assign (.Subscript r2 j2 p2) X.env v = (do
      let ov ← holding [v] (eval r2 X.env)
      let iv ← holding [v, ov] (eval j2 X.env)
      standAt p2
      holding [v, ov, iv] (setItem ov iv v)
      release [v, ov, iv] []) := by intro _; rfl)
    (g1 : (assignEach [.Subscript r1 i1 p1, .Subscript r2 j2 p2] X.env).map (·.2) = assign (.Subscript r1 i1 p1) X.env :: (assignEach [.Subscript r2 j2 p2] X.env).map (·.2) := by rfl) (g2 : (assignEach [.Subscript r2 j2 p2] X.env).map (·.2) = assign (.Subscript r2 j2 p2) X.env :: (assignEach [] X.env).map (·.2) := by rfl)
    (hn : (assignEach [.Subscript r1 i1 p1, .Subscript r2 j2 p2] X.env).length = 2 := by rfl) (hst : (assignEach [.Subscript r1 i1 p1, .Subscript r2 j2 p2] X.env).findIdx? (·.1) = none := by rfl) :
    WS X (.Assign [.Tuple [.Subscript r1 i1 p1, .Subscript r2 j2 p2] k1 tp] (.Tuple [.Subscript r3 j1 p3, .Subscript r4 i2 p4] k2 vp) pos) D σ H :=
  ws_of (ps_asg pe_we (pg_tup hc (pgs_cons (pg_sub pe_we pe_we set_list ha1) (pgs_cons (pg_sub pe_we pe_we set_list ha2) pgs_nil g2) g1) hn hst) hs hw h1) (h.mono fun u H1 ⟨T, y, x, e1, hT, z⟩ =>
    ⟨T, [y, x], e1, SqT.of hT, rfl, y, [x], rfl, z.mono fun u1 H2 z => z.mono fun u2 H3 ⟨q, vs, n, a, e2, e3, e4, e5, z⟩ => ⟨q, vs, n, a, e2, e3, e4, e5, x, [], rfl, z.mono fun u3 H4 z => z.mono fun u4 H5 ⟨q2, vs2, n2, a2, f2, f3, f4, f5, z⟩ => ⟨q2, vs2, n2, a2, f2, f3, f4, f5, rfl, z⟩⟩⟩)
end
/-- a row of data with two neighbours exchanged -/
theorem im_sw2 {H : Hp} {vs : List V} {ds : List PyData} {p : Nat} {y x : V} {dy dx : PyData} (a : ImAll H vs ds) (hy : Im H y dy) (hx : Im H x dx) (h1 : ds[p]? = some dx) (h2 : ds[p + 1]? = some dy) : ImAll H ((vs.set p y).set (p + 1) x) (sw2 ds p) := by
  unfold sw2
  rw [h1, h2]
  exact (a.set hy p).set hx (p + 1)
theorem map_sw2 {α : Type} (f : α → PyData) (xs : List α) (p : Nat) : (sw2 xs p).map f = sw2 (xs.map f) p := by
  unfold sw2
  rw [List.getElem?_map, List.getElem?_map]
  cases xs[p]? with
  | none => rfl
  | some x =>
    cases xs[p + 1]? with
    | none => rfl
    | some y => simp
end K47
/-! C7: swap, the method -/
namespace K47
open PySem PySem.Spec PyProof.Rows L2
/-- what stood is not free -/
def Dom (H H' : Hp) : Prop := ∀ x, H' x = none → H x = none
theorem Dom.of {H H' : Hp} (s : Same H H') : Dom H H' := fun x h => by
  cases e : H x with
  | none => rfl
  | some u => rw [s x u e] at h; cases h
theorem Dom.trans {H H1 H2 : Hp} (a : Dom H H1) (b : Dom H1 H2) : Dom H H2 := fun x h => a x (b x h)
theorem Dom.upd {H : Hp} {q : Addr} {o : HO} : Dom H (L2.upd H q o) := fun x h => by
  by_cases e : x = q
  · subst e; rw [upd_same] at h; cases h
  · rwa [upd_ne e] at h
theorem ls_not_none {H : Hp} {a : Addr} {ds : List PyData} (l : Ls H a ds) (n : H a = none) : False := by
  obtain ⟨vs, h, _⟩ := l
  rw [n] at h; cases h
theorem Dom.ka {C : Addr} {H H' : Hp} {o dx a b c d : Addr} {os : List Sim} {cs bs : List (List Int)} {fl : List (Nat × Nat)} (f : Fr [o, a, b, c, d] H H') (A : KA C H' o dx a b c d os cs bs fl) : Dom H H' := fun x h => by
  cases e : H x with
  | none => rfl
  | some u =>
    by_cases m : x ∈ [o, a, b, c, d]
    · simp at m
      exfalso
      rcases m with z | z | z | z | z
      · rw [z, A.ho] at h; cases h
      · rw [z] at h; exact ls_not_none A.ha h
      · rw [z] at h; exact ls_not_none A.hb h
      · rw [z] at h; exact ls_not_none A.hc h
      · rw [z, A.hd] at h; cases h
    · rw [f x u m e] at h; cases h
theorem Fr.to {ow ow' : List Addr} {H H1 H2 : Hp} (f : Fr ow H H1) (g : Fr ow' H1 H2) (h : ∀ x ∈ ow', x ∈ ow ∨ H x = none) : Fr ow H H2 := fun x u hx e => g x u (fun m => by
  rcases h x m with z | z
  · exact hx z
  · rw [z] at e; cases e) (f x u hx e)
theorem Ls.fr {ow : List Addr} {H H' : Hp} {p : Addr} {ds : List PyData} (l : Ls H p ds) (f : Fr ow H H') (n : p ∉ ow) (t : Tx H H') : Ls H' p ds := by
  obtain ⟨vs, h1, h2⟩ := l
  exact ⟨vs, f p _ n h1, h2.mono t⟩
theorem KA.newB {C : Addr} {H : Hp} {o dx a b c d b' : Addr} {os : List Sim} {cs bs cs' : List (List Int)} {fl : List (Nat × Nat)} (A : KA C H o dx a b c d os cs bs fl) (hb' : Ls H b' (cs'.map eS)) (n1 : a ≠ b') (n2 : b' ≠ c) : KA C (upd H o (.ins C dx (kf a b' c d))) o dx a b' c d os cs' bs fl :=
  have off : ∀ {x : Addr} {ds : List PyData}, Ls H x ds → Ls (upd H o (.ins C dx (kf a b' c d))) x ds := fun ⟨vs, h1, h2⟩ => ⟨vs, by rw [upd_ne (ne_of h1 A.ho fun z => nomatch z)]; exact h1, h2.mono (.mut A.ho fun _ z => nomatch z)⟩
  ⟨n1, A.ac, n2, upd_same, off A.ha, off hb', off A.hc, by rw [upd_ne (ne_of A.hd A.ho fun z => nomatch z)]; exact A.hd⟩
theorem KA.newC {C : Addr} {H : Hp} {o dx a b c d c' : Addr} {os : List Sim} {cs bs bs' : List (List Int)} {fl : List (Nat × Nat)} (A : KA C H o dx a b c d os cs bs fl) (hc' : Ls H c' (bs'.map eS)) (n1 : a ≠ c') (n2 : b ≠ c') : KA C (upd H o (.ins C dx (kf a b c' d))) o dx a b c' d os cs bs' fl :=
  have off : ∀ {x : Addr} {ds : List PyData}, Ls H x ds → Ls (upd H o (.ins C dx (kf a b c' d))) x ds := fun ⟨vs, h1, h2⟩ => ⟨vs, by rw [upd_ne (ne_of h1 A.ho fun z => nomatch z)]; exact h1, h2.mono (.mut A.ho fun _ z => nomatch z)⟩
  ⟨A.ab, n1, n2, upd_same, off A.ha, off A.hb, off hc', by rw [upd_ne (ne_of A.hd A.ho fun z => nomatch z)]; exact A.hd⟩
theorem births_mem {bs : List (List Int)} {n : Nat} : n ∈ birthsOf bs ↔ bs[n]? = some [] := by
  unfold birthsOf
  constructor
  · intro h
    obtain ⟨q, hq, rfl⟩ := List.mem_map.mp h
    rw [List.mem_filter] at hq
    have h1 := List.mem_zipIdx_iff_getElem?.mp hq.1
    have h2 : q.1 = [] := by simpa using hq.2
    rw [← h2]; exact h1
  · intro h
    exact List.mem_map.mpr ⟨([], n), List.mem_filter.mpr ⟨List.mem_zipIdx_iff_getElem?.mpr h, by simp⟩, rfl⟩
theorem pairs_ok {bs : List (List Int)} {fl : List (Nat × Nat)} {n : Nat} (R : RP bs fl n) (hl : bs.length = n) : ∀ p ∈ pairsOf bs fl, p.1 < n ∧ ∀ d, p.2 = some d → d < n := by
  intro p hp
  unfold pairsOf at hp
  obtain ⟨m, hm, rfl⟩ := List.mem_map.mp hp
  refine ⟨?_, fun d hd => ((R.iff m d).mp hd).1⟩
  rw [← hl]
  exact (List.getElem?_eq_some_iff.mp (births_mem.mp hm)).1
theorem gd_eN (os : List Sim) (p : Pr) : Gd 2 (eN os p) := gdd_tup fun d hd => by
  simp only [List.mem_cons, List.not_mem_nil, or_false] at hd
  rcases hd with rfl | rfl
  · exact gd_S _
  · cases p.2 with
    | none => exact gd_none
    | some d => exact gd_S _
theorem walkAt_we {X : Cx} {e : Expr} {σ : L2.St} {H : Hp} {ds : List PyData} (h : ∀ Q : VK, (∀ p H1, Same H H1 → Ls H1 p ds → Q (.ref p) H1) → WE X e σ H Q) : WalkAt (iList X.K (WE X e)) σ H ds := fun R r => h _ fun p H1 s l => by
  obtain ⟨vs, hp, al⟩ := l
  refine ⟨p, rfl, ⟨vs, SqL.of hp⟩, r _ H1 (fun H2 => SqL X.K H2 p vs) (YAt vs) s (by rw [← al.length]; exact walk_list) (fun H2 s2 => SqL.of (s2 _ _ hp)) fun i H2 x H3 hi s2 y => ?_⟩
  obtain ⟨e1, e2⟩ := y
  subst e1
  obtain ⟨d, h1, h2⟩ := al.get' e2
  exact ⟨Same.refl _, d, h1, h2.mono (.of s2)⟩
section
variable {P : Program} {w : World} {K : PySem.W.Frag} {mg : Str → Option Value} {base : Heap} {C : Addr}
def spSwap (C : Addr) : Sp := fun vs H Q _ => ∃ o dx a b c d os cs bs fl, ∃ (p : Nat) (x y : Sim), vs = [V.ref o, .int (p : Nat)] ∧ KA C H o dx a b c d os cs bs fl ∧ OV os ∧ KV os cs bs ∧ RP bs fl os.length ∧ os[p]? = some x ∧ os[p + 1]? = some y ∧ x ∉ fc y ∧
  ∀ v H' b' c' d' cs' bs' fl', KA C H' o dx a b' c' d' (sw2 os p) cs' bs' fl' → KV (sw2 os p) cs' bs' → RP bs' fl' os.length → Fr [o, a, b, c, d] H H' → H b' = none → H c' = none → H d' = none → Q v H'
theorem sc_536 : FnScope ["self", "place", "before", "row", "chain", "bound", "pair"] ["self", "place"] (defScope (inClass (top 53) 6)) := ⟨rfl, rfl, rfl, by decide +kernel, rfl, by decide +kernel, by decide +kernel⟩
theorem ok_Kswap (M : Mg mg) (F : KF K C) (S : StandsM K C "swap" "Kept.swap" 53 6) (DC : Df0 P w K mg base "can_swap" 2 (spU rSwp)) (DX : Df0 P w K mg base "exchanged" 1 (spU rExc)) (DN : Mt P w K mg base C "_named" 2 (spNm C)) (DA : Mt P w K mg base C "_add" 2 (spAdd C)) (DS : Mt P w K mg base C "_settle" 3 (spSet C)) : Mt P w K mg base C "swap" 4 (spSwap C) := by
  refine mk_meth S sc_536 (fun vs H Q E h => by obtain ⟨_, _, _, _, _, _, _, _, _, _, _, _, _, rfl, _⟩ := h; rfl) (fun _ _ _ _ _ _ us hl => match us, hl with | [_, _], _ => rfl) fun f cdv A outer s H vs Q E hr h => ?_
  obtain ⟨o, dx, a, b, c, d, os, cs, bs, fl, p, x, y, rfl, KH, OVh, KVh, RPh, hx, hy, hxy, q'⟩ := h
  have hu : (A.deeper (envOfC "Kept.swap" (defScope (inClass (top 53) 6)) s.heap.objs.size f cdv)).units + 65 < cLine := by have := hr.un; omega
  have hos := OVh.len
  have hp1 : p + 1 < os.length := (List.getElem?_eq_some_iff.mp hy).1
  have OV' := OVh.swap hx hy hxy
  -- slots: self, place; before
  have SP : ∀ (σ : L2.St) (H' : Hp) (os' : List Sim) (cs' bs' : List (List Int)) (fl' : List (Nat × Nat)) (a' b' c' d' : Addr), σ.length = 7 → σ[0]? = some (some (V.ref o)) → σ[1]? = some (some (V.int (p : Nat))) → KA C H' o dx a' b' c' d' os' cs' bs' fl' → Sl H' σ [some (sf C os' cs' bs' fl'), some (.d (.int (p : Nat))), none, none, none, none, none] := fun σ H' os' cs' bs' fl' a' b' c' d' hl h0 h1 A' =>
    ⟨hl.symm, fun i r e => by
      match i with
      | 0 => cases e; exact ⟨_, h0, A'.sf⟩
      | 1 => cases e; exact ⟨_, h1, .int _⟩
      | 2 => cases e
      | 3 => cases e
      | 4 => cases e
      | 5 => cases e
      | 6 => cases e
      | i + 7 => cases e⟩
  have hv : L2.start ["self", "place", "before", "row", "chain", "bound", "pair"] [V.ref o, .int (p : Nat)] = [some (.ref o), some (.int (p : Nat)), none, none, none, none, none] := rfl
  rw [hv]
  refine wss_cons (ws_ifN (SP _ H os cs bs fl a b c d rfl rfl rfl KH) ((put_not (pu_val (pu_call DC.df (hr.mono (by decide)) (pua_cons (pu_sOrder F (pu_var 0)) (pua_cons (pu_var 1) pua_nil)) ⟨os, p, x, y, hx, hy, OVh.sx y (List.mem_of_getElem? hy), hxy, rfl, rfl⟩))).to rfl) fun H1 s1 => ?_)
  have K1 := KH.mono s1
  -- before = self._named()
  refine wss_cons (ws_setW 2 sc_536.nd (we_meth0 DN F.cls (hr.mono (by decide)) (we_name 0 rfl ⟨o, dx, _, rfl, K1.ho, rfl, fun E' => ⟨o, dx, a, b, c, d, os, cs, bs, fl, rfl, K1, by rw [KVh.lb]; omega, pairs_ok RPh KVh.lb, fun q2 H2 n2 s2 l2 => ?_⟩⟩)))
  have K2 := K1.mono s2
  have hq2 : H1 q2 = none := n2
  have nq : q2 ∉ [o, a, b, c, d] := by
    intro m
    simp at m
    rcases m with z | z | z | z | z
    · subst z; rw [K1.ho] at hq2; cases hq2
    · subst z; exact ls_not_none K1.ha hq2
    · subst z; exact ls_not_none K1.hb hq2
    · subst z; exact ls_not_none K1.hc hq2
    · subst z; rw [K1.hd] at hq2; cases hq2
  have f2 : Fr [o, a, b, c, d] H H2 := .of (s1.trans s2)
  show WSs _ _ _ [some (V.ref o), some (.int (p : Nat)), some (.ref q2), none, none, none, none] H2
  obtain ⟨bd0, hbd⟩ : ∃ bd0, bd0 = (pairsOf bs fl).map (eN os) := ⟨_, rfl⟩
  rw [← hbd] at l2
  -- behind the first if
  have rest : ∀ (H3 : Hp) (cs3 bs3 : List (List Int)), KA C H3 o dx a b c d os cs3 bs3 fl → KV os cs3 bs3 → (∀ c, cs3[p + 1]? = some c → (p : Int) ∉ c) → Fr [o, a, b, c, d] H H3 → Ls H3 q2 bd0 →
      WSs ((cxOf CX0 P w K mg base ["self", "place", "before", "row", "chain", "bound", "pair"] "Kept.swap" (defScope (inClass (top 53) 6)) f cdv A outer s H E).nox) ((defBody (inClass (top 53) 6)).drop 3) { nx := fun _ H' => Q .non H', rt := Q } [some (.ref o), some (.int (p : Nat)), some (.ref q2), none, none, none, none] H3 := by
    intro H3 cs3 bs3 K3 V3 hn3 f3 l3
    -- for row in (..)
    refine wss_cons (ws_forT (g := gName 3) (pg_name sc_536.nd rfl (Or.inl rfl)) (we_tup (wa_cons (we_fld (we_name 0 rfl ⟨o, C, dx, _, V.ref a, rfl, K3.ho, F.cls, F.n1, rfl, wa_cons (we_fld (we_name 0 rfl ⟨o, C, dx, _, V.ref b, rfl, K3.ho, F.cls, F.n2, rfl, wa_cons (we_fld (we_name 0 rfl ⟨o, C, dx, _, V.ref c, rfl, K3.ho, F.cls, F.n3, rfl, wa_nil ⟨by show 3 ≤ sizeLine; decide, fun T hT => ?_⟩⟩))⟩))⟩)))))
    refine ⟨T, _, rfl, upd_same, fun i σ' H' => σ'.length = 7 ∧ σ'[0]? = some (some (V.ref o)) ∧ σ'[1]? = some (some (V.int (p : Nat))) ∧ σ'[2]? = some (some (V.ref q2)) ∧ H' T = some (.tup [.ref a, .ref b, .ref c]) ∧ Fr [o, a, b, c, d] H H' ∧ Ls H' q2 bd0 ∧
      KA C H' o dx a b c d (if 1 ≤ i then sw2 os p else os) (if 2 ≤ i then sw2 cs3 p else cs3) (if 3 ≤ i then sw2 bs3 p else bs3) fl, ⟨rfl, rfl, rfl, rfl, upd_same, f3.trans (.of (same_new hT)), l3.mono (same_new hT), K3.mono (same_new hT)⟩, fun i σ' H' _ hP => hP.2.2.2.2.1, fun i xr σ' H' hxr hP => ?_, fun σ' H' hP => ?_⟩
    · obtain ⟨g1, g2, g3, g4, g5, g6, g7, g8⟩ := hP
      show WSs _ _ _ (σ'.set 3 (some xr)) H'
      have k1 : (σ'.set 3 (some xr)).length = 7 := by rw [List.length_set]; exact g1
      have k0 : (σ'.set 3 (some xr))[0]? = some (some (V.ref o)) := by rw [List.getElem?_set_ne (by decide)]; exact g2
      have k2 : (σ'.set 3 (some xr))[1]? = some (some (V.int (p : Nat))) := by rw [List.getElem?_set_ne (by decide)]; exact g3
      have k3 : (σ'.set 3 (some xr))[2]? = some (some (V.ref q2)) := by rw [List.getElem?_set_ne (by decide)]; exact g4
      have k4 : (σ'.set 3 (some xr))[3]? = some (some xr) := List.getElem?_set_self (by omega)
      generalize σ'.set 3 (some xr) = σ1 at k1 k0 k2 k3 k4
      -- one row
      have row : ∀ (q : Addr) (ds : List PyData) (D' : Ends), xr = .ref q → Ls H' q ds → p + 1 < ds.length → q ∈ [o, a, b, c, d] →
          (∀ (H9 H10 : Hp) (us' : List V), Same H' H9 → H10 = upd H9 q (.lst us') → ImAll H9 us' (sw2 ds p) → (∃ us, H9 q = some (.lst us)) → D'.nx σ1 H10) →
          WSs ((cxOf CX0 P w K mg base ["self", "place", "before", "row", "chain", "bound", "pair"] "Kept.swap" (defScope (inClass (top 53) 6)) f cdv A outer s H E).nox) (match (defBody (inClass (top 53) 6)).getD 3 (.Pass ⟨0, 0, 0, 0⟩) with
            | .For _ _ bd _ _ => bd
            | _ => []) D' σ1 H' := by
        intro q ds D' er lq hpd hmq hN
        subst er
        obtain ⟨us, hus, al⟩ := lq
        have hul := al.length
        have hd0 : ds[p]? = some ds[p] := List.getElem?_eq_getElem (by omega)
        have hd1 : ds[p + 1]? = some ds[p + 1] := List.getElem?_eq_getElem hpd
        obtain ⟨v0, hv0, im0⟩ := al.get hd0
        obtain ⟨v1, hv1, im1⟩ := al.get hd1
        have Sp := SP σ1 H' _ _ _ _ _ _ _ _ k1 k0 k2 g8
        refine wss_one (ws_swapRow (we_tup (wa_cons (we_ixL (we_name 3 k4 (we_pu Sp (pu_add (pu_var 1) pu_int) fun z H4 s4 a4 => ?_))))))
        cases a4
        refine ⟨q, us, (p : Int) + 1, v1, rfl, rfl, s4 _ _ hus, atI_nat' (n := p + 1) hv1 (by omega), wa_cons (we_ixL (we_name 3 k4 (we_name 1 k2 ⟨q, us, (p : Int), v0, rfl, rfl, s4 _ _ hus, atI_nat' (n := p) hv0 rfl, wa_nil ⟨by show 2 ≤ sizeLine; decide, fun T2 hT2 => ?_⟩⟩)))⟩
        refine ⟨T2, v1, v0, rfl, upd_same, we_name 3 k4 (we_name 1 k2 ?_)⟩
        have sT := same_new (o := .tup [v1, v0]) hT2
        have s9 : Same H' (upd H4 T2 (.tup [v1, v0])) := s4.trans sT
        refine ⟨q, us, p, p, rfl, rfl, s9 _ _ hus, ixN_nat' (by omega) rfl, we_name 3 k4 ?_⟩
        -- place + 1 behind the first store: only the slots are read
        have Sp2 : Sl (upd (upd H4 T2 (.tup [v1, v0])) q (.lst (us.set p v1))) σ1 [none, some (.d (.int (p : Nat))), none, none, none, none, none] := ⟨k1.symm, fun i r e => by
          match i with
          | 0 => cases e
          | 1 => cases e; exact ⟨_, k2, .int _⟩
          | 2 => cases e
          | 3 => cases e
          | 4 => cases e
          | 5 => cases e
          | 6 => cases e
          | i + 7 => cases e⟩
        refine we_pu Sp2 (pu_add (pu_var 1) pu_int) fun z2 H5 s5 a5 => ?_
        cases a5
        refine ⟨q, us.set p v1, (p : Int) + 1, p + 1, rfl, rfl, s5 _ _ upd_same, ixN_nat' (by rw [List.length_set]; omega) (by omega), ?_⟩
        have s10 : Same H' (upd H5 q (.lst us)) := fun z u e => by
          by_cases hz : z = q
          · subst hz; rw [upd_same]; rw [hus] at e; exact e
          · rw [upd_ne hz]
            exact s5 z u (by rw [upd_ne hz]; exact s9 z u e)
        refine hN (upd H5 q (.lst us)) _ ((us.set p v1).set (p + 1) v0) s10 upd_upd.symm ?_ ⟨us, upd_same⟩
        exact im_sw2 (al.mono (.of s10)) (im1.mono (.of s10)) (im0.mono (.of s10)) hd0 hd1
      have frow : ∀ (q : Addr) (H9 : Hp) (us' : List V), q ∈ [o, a, b, c, d] → Same H' H9 → (∃ us, H9 q = some (.lst us)) → (upd H9 q (.lst us')) T = some (.tup [.ref a, .ref b, .ref c]) ∧ Fr [o, a, b, c, d] H (upd H9 q (.lst us')) ∧ Ls (upd H9 q (.lst us')) q2 bd0 := fun q H9 us' hq s9 ⟨us, hus⟩ => by
        have tx : Tx H9 (upd H9 q (.lst us')) := .mut hus fun _ z => nomatch z
        refine ⟨tx _ _ (s9 _ _ g5), g6.trans ((Fr.of s9).trans (.upd hq)), (g7.mono s9).fr (.upd hq) nq tx⟩
      match i with
      | 0 =>
        have e : xr = .ref a := (Option.some.inj hxr).symm
        refine row a (os.map eS) _ e g8.ha (by rw [List.length_map]; exact hp1) (by simp) fun H9 H10 us' s9 e10 im9 hq9 => ?_
        subst e10
        obtain ⟨t1, t2, t3⟩ := frow a H9 us' (by simp) s9 hq9
        exact ⟨k1, k0, k2, k3, t1, t2, t3, (g8.mono s9).setA (by rw [if_pos (by omega), map_sw2]; exact im9)⟩
      | 1 =>
        have e : xr = .ref b := (Option.some.inj hxr).symm
        refine row b (cs3.map eS) _ e g8.hb (by rw [List.length_map, V3.lc]; exact hp1) (by simp) fun H9 H10 us' s9 e10 im9 hq9 => ?_
        subst e10
        obtain ⟨t1, t2, t3⟩ := frow b H9 us' (by simp) s9 hq9
        exact ⟨k1, k0, k2, k3, t1, t2, t3, (g8.mono s9).setB (by rw [if_pos (by omega), map_sw2]; exact im9)⟩
      | 2 =>
        have e : xr = .ref c := (Option.some.inj hxr).symm
        refine row c (bs3.map eS) _ e g8.hc (by rw [List.length_map, V3.lb]; exact hp1) (by simp) fun H9 H10 us' s9 e10 im9 hq9 => ?_
        subst e10
        obtain ⟨t1, t2, t3⟩ := frow c H9 us' (by simp) s9 hq9
        exact ⟨k1, k0, k2, k3, t1, t2, t3, (g8.mono s9).setC (by rw [if_pos (by omega), map_sw2]; exact im9)⟩
      | i + 3 => cases hxr
    · -- behind the loop: the chains, the bounds, the settling, the answer
      obtain ⟨g1, g2, g3, g4, g5, g6, g7, g8⟩ := hP
      have K8 : KA C H' o dx a b c d (sw2 os p) (sw2 cs3 p) (sw2 bs3 p) fl := g8
      have hu0 : ∀ c ∈ sw2 cs3 p, c.length ≤ 10000 := fun c' hc' => by
        obtain ⟨n, hn⟩ := List.mem_iff_getElem?.mp ((mem_sw2 (by rw [V3.lc]; exact hp1)).mp hc')
        exact Nat.le_trans (V3.clen OVh hn) (by decide)
      have hub : ∀ c ∈ sw2 bs3 p, c.length ≤ 10000 := fun c' hc' => by
        obtain ⟨n, hn⟩ := List.mem_iff_getElem?.mp ((mem_sw2 (by rw [V3.lb]; exact hp1)).mp hc')
        have hl := (List.getElem?_eq_some_iff.mp hn).1
        rw [V3.lb] at hl
        obtain ⟨c2, b2, hc2, hb2⟩ := V3.both hl
        rw [hn] at hb2
        cases hb2
        exact Nat.le_trans (V3.blen OVh hc2 hn) (by decide)
      have lcs : (sw2 cs3 p).length ≤ 60 := by rw [sw2_len, V3.lc]; exact hos
      have lbs : (sw2 bs3 p).length ≤ 60 := by rw [sw2_len, V3.lb]; exact hos
      -- self._chains = [..]
      refine wss_cons (ws_fld (we_puN (SP σ' H' _ _ _ _ _ _ _ _ g1 g2 g3 K8) (lcd1a (xs := sw2 cs3 p) (enc := eS) ["self", "place", "before", "row", "chain", "bound", "pair"] (defScope (inClass (top 53) 6)) 4 (fun c => eS (exc c p)) (src_list (pu_sChains F (pu_var 0))) sc_536.nd (by omega)
        (fun c' hc' _ _ _ _ _ => pu_call DX.df (hr.mono (by decide)) (pua_cons (pu_var 4) (pua_cons (pu_var 1) pua_nil)) ⟨c', p, hu0 c' hc', rfl, rfl⟩)).pun fun b' H4 n4 s4 l4 => we_name 0 g2 ⟨o, C, dx, _, rfl, s4 _ _ K8.ho, F.cls, F.n2, by simp [kf], ?_⟩))
      have K4 := K8.mono s4
      have eb' : (sw2 cs3 p).map (fun c => eS (exc c p)) = ((sw2 cs3 p).map fun c => exc c p).map eS := by rw [List.map_map]; rfl
      rw [eb'] at l4
      have nb1 : a ≠ b' := fun z => by subst z; exact ls_not_none K8.ha n4
      have nb2 : b' ≠ c := fun z => by subst z; exact ls_not_none K8.hc n4
      have K5 := K4.newB l4 nb1 nb2
      have e5 : putF "_chains" (V.ref b') (kf a b c d) = kf a b' c d := rfl
      rw [e5]
      have t5 : Tx H4 (upd H4 o (.ins C dx (kf a b' c d))) := .mut K4.ho fun _ z => nomatch z
      have f5 : Fr [o, a, b, c, d] H (upd H4 o (.ins C dx (kf a b' c d))) := g6.trans ((Fr.of s4).trans (.upd (by simp)))
      have l5 : Ls (upd H4 o (.ins C dx (kf a b' c d))) q2 bd0 := (g7.mono s4).fr (ow := [o, a, b, c, d]) (.upd (by simp)) nq t5
      have dom8 : Dom H H' := .ka g6 K8
      have nb : H b' = none := dom8 b' n4
      have dom5 : Dom H (upd H4 o (.ins C dx (kf a b' c d))) := dom8.trans ((Dom.of s4).trans .upd)
      have nbq : b' ≠ q2 := fun z => by subst z; exact ls_not_none g7 n4
      generalize upd H4 o (.ins C dx (kf a b' c d)) = H5 at K5 f5 l5 dom5
      -- self._bounds = [..]
      refine wss_cons (ws_fld (we_puN (SP σ' H5 _ _ _ _ _ _ _ _ g1 g2 g3 K5) (lcd1a (xs := sw2 bs3 p) (enc := eS) ["self", "place", "before", "row", "chain", "bound", "pair"] (defScope (inClass (top 53) 6)) 5 (fun c => eS (exc c p)) (src_list (pu_sBounds F (pu_var 0))) sc_536.nd (by omega)
        (fun c' hc' _ _ _ _ _ => pu_call DX.df (hr.mono (by decide)) (pua_cons (pu_var 5) (pua_cons (pu_var 1) pua_nil)) ⟨c', p, hub c' hc', rfl, rfl⟩)).pun fun c' H6 n6 s6 l6 => we_name 0 g2 ⟨o, C, dx, _, rfl, s6 _ _ K5.ho, F.cls, F.n3, by simp [kf], ?_⟩))
      have K6 := K5.mono s6
      have ec' : (sw2 bs3 p).map (fun c => eS (exc c p)) = ((sw2 bs3 p).map fun c => exc c p).map eS := by rw [List.map_map]; rfl
      rw [ec'] at l6
      have nc1 : a ≠ c' := fun z => by subst z; exact ls_not_none K5.ha n6
      have nc2 : b' ≠ c' := fun z => by subst z; exact ls_not_none K5.hb n6
      have K7 := K6.newC l6 nc1 nc2
      have e7 : putF "_bounds" (V.ref c') (kf a b' c d) = kf a b' c' d := rfl
      rw [e7]
      have t7 : Tx H6 (upd H6 o (.ins C dx (kf a b' c' d))) := .mut K6.ho fun _ z => nomatch z
      have f7 : Fr [o, a, b, c, d] H (upd H6 o (.ins C dx (kf a b' c' d))) := f5.trans ((Fr.of s6).trans (.upd (by simp)))
      have l7 : Ls (upd H6 o (.ins C dx (kf a b' c' d))) q2 bd0 := (l5.mono s6).fr (ow := [o, a, b, c, d]) (.upd (by simp)) nq t7
      have nc : H c' = none := dom5 c' n6
      have dom7 : Dom H (upd H6 o (.ins C dx (kf a b' c' d))) := dom5.trans ((Dom.of s6).trans .upd)
      have n7q : q2 ∉ [o, a, b', c', d] := by
        intro m
        simp at m nq
        rcases m with z | z | z | z | z
        · exact nq.1 z
        · exact nq.2.1 z
        · exact nbq z.symm
        · subst z; exact ls_not_none l5 n6
        · exact nq.2.2.2.2 z
      generalize upd H6 o (.ins C dx (kf a b' c' d)) = H7 at K7 f7 l7 dom7
      have KV7 := V3.swap OVh OV' hp1 hn3
      -- self._settle()
      refine wss_cons (ws_expr (we_meth0 DS F.cls hr (we_name 0 g2 ⟨o, dx, _, rfl, K7.ho, rfl, fun E' => ⟨o, dx, a, b', c', d, _, _, _, fl, rfl, K7, OV', KV7, fun H8 d' cs' bs' fl' K8' V8 R8 f8 n8 => ?_⟩⟩)))
      have f8' : Fr [o, a, b, c, d] H H8 := f7.to f8 fun x hx => by
        simp at hx
        rcases hx with z | z | z | z | z
        · exact .inl (by simp [z])
        · exact .inl (by simp [z])
        · exact .inr (by rw [z]; exact nb)
        · exact .inr (by rw [z]; exact nc)
        · exact .inl (by simp [z])
      have l8 : Ls H8 q2 bd0 := l7.fr f8 n7q (f8.tx K7.notup)
      have nd : H d' = none := dom7 d' n8
      rw [sw2_len] at R8
      have lbs8 : bs'.length = os.length := by rw [V8.lb, sw2_len]
      have hpl : (pairsOf bs' fl').length ≤ 1000 := by
        unfold pairsOf
        rw [List.length_map]
        exact Nat.le_trans (births_len bs') (by omega)
      have S8 := (SP σ' H8 _ _ _ _ _ _ _ _ g1 g2 g3 K8').add 2 (r := .l bd0) g4 ⟨q2, rfl, l8⟩
      -- return [pair for pair in self._named() if pair not in before]
      refine wss_one (ws_retW (we_of (pe_lcOf (own := [("pair", 6)]) (g := gName 6) rfl sc_536.nd (pi_list pe_we) (blkOk_by (N := ["self", "place", "before", "row", "chain", "bound", "pair"]) (sc := defScope (inClass (top 53) 6)) (by decide +kernel)) (fun _ _ _ _ _ => pg_name sc_536.nd rfl (Or.inl rfl)) (by intro _; rfl))
        (lc_go (xs := pairsOf bs' fl') (enc := eN (sw2 os p)) (fun pr => !(bd0.any fun z => PyData.eqv z (eN (sw2 os p) pr))) (eN (sw2 os p)) (fun pr => [some (sf C (sw2 os p) cs' bs' fl'), some (.d (.int (p : Nat))), some (.l bd0), none, none, none, some (.d (eN (sw2 os p) pr))]) (walkAt_we fun Q' hQ => we_meth0 DN F.cls (hr.mono (by decide)) (we_name 0 g2 ⟨o, dx, _, rfl, K8'.ho, rfl, fun E' => ⟨o, dx, a, b', c', d', _, _, _, fl', rfl, K8', by omega, by rw [sw2_len]; exact pairs_ok R8 lbs8, fun p9 H9 n9 s9 l9 => hQ p9 H9 s9 l9⟩⟩)) (by omega) S8 (by intro i hi r; simp at hi; subst hi; simp) (fun pr _ => gd_name (by simp)) (fun pr _ _ _ _ _ _ => .one ?_) (fun pr _ _ _ _ _ _ _ => pu_var 6) fun p9 H9 n9 s9 l9 => ?_)))
      · refine (put_cmp (op_notInD hu) (rv_ninD ((gd_eN _ pr).shaped (by decide)) ((gd_lst (n := 2) fun d hd => ?_).shaped (by decide))) (by rfl) (pu_var 6) (pu_var 2)).to rfl
        rw [hbd] at hd
        obtain ⟨z, _, rfl⟩ := List.mem_map.mp hd
        exact gd_eN _ _
      · exact q' (.ref p9) H9 b' c' d' cs' bs' fl' (K8'.mono s9) V8 R8 (f8'.trans (.of s9)) nb nc nd
  -- if place in self._chains[place + 1]: self._add(place, place + 1)
  obtain ⟨cp, bp, hcp, hbp⟩ := KVh.both (j := p) (by omega)
  obtain ⟨cp1, bp1, hcp1, hbp1⟩ := KVh.both (j := p + 1) hp1
  have S2 := (SP [some (.ref o), some (.int (p : Nat)), some (.ref q2), none, none, none, none] H2 os cs bs fl a b c d rfl rfl rfl K2)
  have at1 : ∀ {xs : List (List Int)} {n : Nat} {x : List Int}, xs[n]? = some x → (xs.map eS)[n]? = some (eS x) := fun h => by rw [List.getElem?_map, h]; rfl
  refine wss_cons (ws_if (b := decide ((p : Int) ∈ cp1)) S2 (put_cmp op_in_seq rv_inT (by rfl) (pu_var 1) (pu_ixL (pu_sChains F (pu_var 0)) (pu_add (pu_var 1) pu_int) (atI_nat' (n := p + 1) (at1 hcp1) (by omega)))) (fun hb H3 s3 => ?_) fun hb H3 s3 => ?_)
  · have hb : (p : Int) ∈ cp1 := of_decide_eq_true hb
    have K3 := K2.mono s3
    refine wss_one (ws_expr (we_meth DA F.cls (hr.mono (by decide)) (we_name 0 rfl ⟨o, dx, _, rfl, K3.ho, rfl, wa_cons (we_pu (S2.mono s3) (pu_var 1) fun v4 H4 s4 a4 => wa_cons (we_pu (S2.mono (s3.trans s4)) (pu_add (pu_var 1) pu_int) fun v5 H5 s5 a5 => wa_nil fun E' => ?_))⟩)))
    cases a4; cases a5
    have K5 := K3.mono (s4.trans s5)
    have hdm : dm os p = dm os (p + 1 : Nat) := ((KVh.ch (p + 1) cp1 hcp1).2.2 _ hb).2
    refine ⟨o, dx, a, b, c, d, os, cs, bs, fl, p, p + 1, cp1, cp, bp1, bp, rfl, K5, hcp1, hcp, hbp1, hbp, Nat.le_trans (KVh.clen OVh hcp1) (by decide), Nat.le_trans (KVh.clen OVh hcp) (by decide), Nat.le_trans (KVh.blen OVh hcp1 hbp1) (by decide), Nat.le_trans (KVh.blen OVh hcp hbp) (by decide), fun H6 K6 f6 => ?_⟩
    refine rest H6 _ _ K6 (KVh.add (by omega) hcp1 hcp hbp1 hbp hdm) (fun c' hc' => ?_) ((f2.trans (.of (s3.trans (s4.trans s5)))).trans f6) (((l2.mono s3).mono (s4.trans s5)).fr f6 nq (f6.tx K5.notup))
    rw [List.getElem?_set_self (List.getElem?_eq_some_iff.mp hcp1).1] at hc'
    cases hc'
    rw [mem_addI]
    have := List.mem_of_getLast? (KVh.ch p cp hcp).2.1
    rintro (z | z)
    · exact z.2 this
    · exact z.2 hb
  · refine wss_nil (rest H3 cs bs (K2.mono s3) KVh (fun c' hc' => ?_) (f2.trans (.of s3)) (l2.mono s3))
    rw [hcp1] at hc'
    cases hc'
    exact of_decide_eq_false hb
end
end K47
/-! C8: Kept made; a Kept as a whole -/
namespace K47
open PySem PySem.Spec PyProof.Rows L2
theorem OV.take {os : List Sim} (O : OV os) (i : Nat) : OV (os.take i) where
  len := by rw [List.length_take]; have := O.len; omega
  nd := (List.take_sublist i os).nodup O.nd
  sx := fun s hs => O.sx s (List.mem_of_mem_take hs)
  fb := fun j s hs f hf => by
    rw [List.getElem?_take] at hs
    split at hs
    · have := O.fb j s hs f hf
      rw [List.take_take, Nat.min_eq_left (by omega)]; exact this
    · cases hs
/-- a Kept at o of the order os; ow: the places that are its own -/
def KS (C : Addr) (H : Hp) (o : Addr) (ow : List Addr) (os : List Sim) (cs bs : List (List Int)) (fl : List (Nat × Nat)) : Prop := ∃ dx a b c d, ow = [o, a, b, c, d] ∧ KA C H o dx a b c d os cs bs fl ∧ OV os ∧ KV os cs bs ∧ RP bs fl os.length
theorem KS.mono {C : Addr} {H H' : Hp} {o : Addr} {ow : List Addr} {os : List Sim} {cs bs : List (List Int)} {fl : List (Nat × Nat)} (k : KS C H o ow os cs bs fl) (s : Same H H') : KS C H' o ow os cs bs fl := by
  obtain ⟨dx, a, b, c, d, e, A, O, V, R⟩ := k
  exact ⟨dx, a, b, c, d, e, A.mono s, O, V, R⟩
theorem KS.ins {C : Addr} {H : Hp} {o : Addr} {ow : List Addr} {os : List Sim} {cs bs : List (List Int)} {fl : List (Nat × Nat)} (k : KS C H o ow os cs bs fl) : ∃ dx a b c d, H o = some (.ins C dx (kf a b c d)) := by
  obtain ⟨dx, a, b, c, d, e, A, O, V, R⟩ := k
  exact ⟨dx, a, b, c, d, A.ho⟩
theorem KS.notup {C : Addr} {H : Hp} {o : Addr} {ow : List Addr} {os : List Sim} {cs bs : List (List Int)} {fl : List (Nat × Nat)} (k : KS C H o ow os cs bs fl) : ∀ q ∈ ow, ∀ xs, H q ≠ some (.tup xs) := by
  obtain ⟨dx, a, b, c, d, rfl, A, O, V, R⟩ := k
  exact A.notup
theorem KS.sf {C : Addr} {H : Hp} {o : Addr} {ow : List Addr} {os : List Sim} {cs bs : List (List Int)} {fl : List (Nat × Nat)} (k : KS C H o ow os cs bs fl) : At H (.ref o) (K47.sf C os cs bs fl) := by
  obtain ⟨dx, a, b, c, d, rfl, A, O, V, R⟩ := k
  exact A.sf
/-- what one may change, and the new ones -/
def Nw (ow ow' : List Addr) (H : Hp) : Prop := ∀ x ∈ ow', x ∈ ow ∨ H x = none
theorem Nw.refl (ow : List Addr) (H : Hp) : Nw ow ow H := fun x h => .inl h
/-- one step behind another -/
theorem Nw.trans {ow ow1 ow2 : List Addr} {H H1 : Hp} (a : Nw ow ow1 H) (f : Fr ow H H1) (b : Nw ow1 ow2 H1) : Nw ow ow2 H := fun x h => by
  rcases b x h with z | z
  · exact a x z
  · by_cases m : x ∈ ow
    · exact .inl m
    · right
      cases e : H x with
      | none => rfl
      | some u => rw [f x u m e] at z; cases z
theorem KS.live {C : Addr} {H : Hp} {o : Addr} {ow : List Addr} {os : List Sim} {cs bs : List (List Int)} {fl : List (Nat × Nat)} (k : KS C H o ow os cs bs fl) : ∀ x ∈ ow, H x ≠ none := by
  obtain ⟨dx, a, b, c, d, rfl, A, O, V, R⟩ := k
  intro x m h
  simp at m
  rcases m with z | z | z | z | z
  · rw [z, A.ho] at h; cases h
  · rw [z] at h; exact ls_not_none A.ha h
  · rw [z] at h; exact ls_not_none A.hb h
  · rw [z] at h; exact ls_not_none A.hc h
  · rw [z, A.hd] at h; cases h
section
variable {P : Program} {w : World} {K : PySem.W.Frag} {mg : Str → Option Value} {base : Heap} {C : Addr}
def spInit (C : Addr) : Sp := fun vs H Q _ => ∃ (o dx l : Addr) (os : List Sim), vs = [V.ref o, .ref l] ∧ H o = some (.ins C dx []) ∧ Ls H l (os.map eS) ∧ OV os ∧
  ∀ H' ow cs bs fl, KS C H' o ow os cs bs fl → Fr [o] H H' → Nw [o] ow H → Q .non H'
theorem sc_530 : FnScope ["self", "order", "simplex"] ["self", "order"] (defScope (inClass (top 53) 0)) := ⟨rfl, rfl, rfl, by decide +kernel, rfl, by decide +kernel, by decide +kernel⟩
/-- the rule for an __init__ -/
structure MkI (P : Program) (w : World) (K : PySem.W.Frag) (mg : Str → Option Value) (base : Heap) (C : Addr) (x : Str) (k : Nat) (sp : Sp) : Prop where
  ex : ∃ (f : Addr) (fd : FuncData) (ps : List Str), FnOk P w K mg base CX0 k f fd ps sp ∧ Mk K C f ∧ Binds K fd ps [] ∧ mg x = some (.ref C)
theorem we_make {X : Cx} {x : Str} {k : Nat} {sp : Sp} {e : Expr} {es : List Expr} {p pos : Pos} {σ : L2.St} {H : Hp} {Q : VK} (M : MkI X.prog X.w X.K X.mg X.base C x k sp) (hr : Room (k + 1) X.A)
    (h : WA X (e :: es) σ H fun vs H1 => ∀ x dx, H1 x = none → H1 dx = none → dx ≠ x → ∀ E, sp (.ref x :: vs) (upd (upd H1 dx (.own x)) x (.ins C dx [])) (fun v H2 => v = .non ∧ Q (.ref x) H2) E) (hg : Gl X x := by rfl)
    (hdb : (x == ("__debug__" : Str)) = false := by decide) (he : starEach (e :: es) X.env = (false, eval e X.env) :: starEach es X.env := by rfl) (hpl : (backTo pos (starEach es X.env)).any (·.1) = false := by rfl) : WE X (.Call (.Name x p) (e :: es) [] pos) σ H Q := by
  obtain ⟨f, fd, ps, F, hm, hb, hmg⟩ := M.ex
  exact we_of (pe_make (E := fun _ _ _ => True) hm F hr hg hmg hb .nil pass0 pa_wa hdb he hpl) (h.mono fun vs H1 z x dx n1 n2 n3 => by rw [List.append_nil]; exact z x dx n1 n2 n3 _)
def StandsI (K : PySem.W.Frag) (mg : Str → Option Value) (C : Addr) (cls qual : Str) (c j : Nat) : Prop := ∃ f fd, FnT K "__init__" qual (inClass (top c) j) f fd ∧ Mk K C f ∧ mg cls = some (.ref C)
theorem mk_init {C : Addr} {cls qual : Str} {c j : Nat} {N ps : List Str} {k : Nat} {sp : Sp} (S : StandsI K mg C cls qual c j) (sc : FnScope N ps (defScope (inClass (top c) j))) (len : ∀ vs H Q E, sp vs H Q E → vs.length = ps.length)
    (hbind : ∀ (kV doc pm : Value) (an : Option Addr) (cdv ct : Value) (us : List Value), us.length = ps.length → bindArgs (PySem.W.fnOf "__init__" qual (defArgs (inClass (top c) j)) (defBody (inClass (top c) j)) (defScope (inClass (top c) j)) .none kV doc pm an cdv ct) ⟨us, []⟩ = pure (ps.zip us))
    (hbody : ∀ (f : Addr) (cdv : Value) (A : Around) (outer : List Env) (s : Shared) (H : Hp) (vs : List V) (Q : VK) (E : XK), Room k (A.deeper (envOfC qual (defScope (inClass (top c) j)) s.heap.objs.size f cdv)) → sp vs H Q E →
      WSs (cxOf CX0 P w K mg base N qual (defScope (inClass (top c) j)) f cdv A outer s H E).nox (defBody (inClass (top c) j)) { nx := fun _ H' => Q .non H', rt := Q } (L2.start N vs) H) : MkI P w K mg base C cls (k + 1) sp := by
  obtain ⟨f, fd, F, hm, hmg⟩ := S
  have G : FnOk P w K mg base CX0 (k + 1) f fd ps sp := F.ok sc len fun cdv A outer s H vs Q E hr h => ⟨_, PSs.nox pss_wss, hbody f cdv A outer s H vs Q E hr h⟩
  exact ⟨f, fd, ps, G, hm, F.bindsN hbind, hmg⟩
theorem KV.nil : KV [] [] [] := ⟨rfl, rfl, fun j c h => by simp at h, fun j b c h => by simp at h⟩
theorem ok_Kinit (M : Mg mg) (F : KF K C) (S : StandsI K mg C "Kept" "Kept.__init__" 53 0) (DP : Mt P w K mg base C "put" 4 (spPut C)) : MkI P w K mg base C "Kept" 5 (spInit C) := by
  refine mk_init S sc_530 (fun vs H Q E h => by obtain ⟨_, _, _, _, rfl, _⟩ := h; rfl) (fun _ _ _ _ _ _ us hl => match us, hl with | [_, _], _ => rfl) fun f cdv A outer s H vs Q E hr h => ?_
  obtain ⟨o, dx, l, os, rfl, ho, hl, OVh, q'⟩ := h
  have hv : L2.start ["self", "order", "simplex"] [V.ref o, .ref l] = [some (.ref o), some (.ref l), none] := rfl
  rw [hv]
  have hol : l ≠ o := fun z => by subst z; obtain ⟨_, h, _⟩ := hl; rw [ho] at h; cases h
  -- the four fields
  refine wss_cons (ws_fld (we_lst (wa_nil ⟨by decide, fun a ha => we_name 0 rfl ⟨o, C, dx, _, rfl, same_new ha _ _ ho, F.cls, F.n1, by simp, ?_⟩⟩)))
  have hoa : o ≠ a := ne_of_none ho ha
  refine wss_cons (ws_fld (we_lst (wa_nil ⟨by decide, fun b hb => we_name 0 rfl ⟨o, C, dx, _, rfl, same_new hb _ _ upd_same, F.cls, F.n2, by simp [putF], ?_⟩⟩)))
  have hob : o ≠ b := ne_of_none (H := upd (upd H a (.lst [])) o (.ins C dx (putF "_order" (.ref a) []))) upd_same hb
  have hab : a ≠ b := ne_of_none (H := upd (upd H a (.lst [])) o (.ins C dx (putF "_order" (.ref a) []))) (by rw [upd_ne hoa.symm]; exact upd_same) hb
  have H2a : upd (upd (upd (upd H a (.lst [])) o (.ins C dx (putF "_order" (.ref a) []))) b (.lst [])) o (.ins C dx (putF "_chains" (.ref b) (putF "_order" (.ref a) []))) a = some (.lst []) := by rw [upd_ne hoa.symm, upd_ne hab, upd_ne hoa.symm, upd_same]
  have H2b : upd (upd (upd (upd H a (.lst [])) o (.ins C dx (putF "_order" (.ref a) []))) b (.lst [])) o (.ins C dx (putF "_chains" (.ref b) (putF "_order" (.ref a) []))) b = some (.lst []) := by rw [upd_ne hob.symm, upd_same]
  have H2o : upd (upd (upd (upd H a (.lst [])) o (.ins C dx (putF "_order" (.ref a) []))) b (.lst [])) o (.ins C dx (putF "_chains" (.ref b) (putF "_order" (.ref a) []))) o = some (.ins C dx [("_order", .ref a), ("_chains", .ref b)]) := upd_same
  have nb0 : H b = none := by
    have := hb
    rw [upd_ne hob.symm, upd_ne hab.symm] at this; exact this
  have f2 : Fr [o] H (upd (upd (upd (upd H a (.lst [])) o (.ins C dx (putF "_order" (.ref a) []))) b (.lst [])) o (.ins C dx (putF "_chains" (.ref b) (putF "_order" (.ref a) [])))) := ((Fr.of (same_new ha)).trans (.upd (by simp))).trans ((Fr.of (same_new hb)).trans (.upd (by simp)))
  generalize upd (upd (upd (upd H a (.lst [])) o (.ins C dx (putF "_order" (.ref a) []))) b (.lst [])) o (.ins C dx (putF "_chains" (.ref b) (putF "_order" (.ref a) []))) = H2 at H2a H2b H2o f2
  refine wss_cons (ws_fld (we_lst (wa_nil ⟨by decide, fun c hc => we_name 0 rfl ⟨o, C, dx, _, rfl, same_new hc _ _ H2o, F.cls, F.n3, by simp, ?_⟩⟩)))
  have hoc : o ≠ c := ne_of_none H2o hc
  have hac : a ≠ c := ne_of_none H2a hc
  have hbc : b ≠ c := ne_of_none H2b hc
  have H3a : upd (upd H2 c (.lst [])) o (.ins C dx (putF "_bounds" (.ref c) [("_order", .ref a), ("_chains", .ref b)])) a = some (.lst []) := by rw [upd_ne hoa.symm, upd_ne hac]; exact H2a
  have H3b : upd (upd H2 c (.lst [])) o (.ins C dx (putF "_bounds" (.ref c) [("_order", .ref a), ("_chains", .ref b)])) b = some (.lst []) := by rw [upd_ne hob.symm, upd_ne hbc]; exact H2b
  have H3c : upd (upd H2 c (.lst [])) o (.ins C dx (putF "_bounds" (.ref c) [("_order", .ref a), ("_chains", .ref b)])) c = some (.lst []) := by rw [upd_ne hoc.symm, upd_same]
  have H3o : upd (upd H2 c (.lst [])) o (.ins C dx (putF "_bounds" (.ref c) [("_order", .ref a), ("_chains", .ref b)])) o = some (.ins C dx [("_order", .ref a), ("_chains", .ref b), ("_bounds", .ref c)]) := upd_same
  have f3 : Fr [o] H (upd (upd H2 c (.lst [])) o (.ins C dx (putF "_bounds" (.ref c) [("_order", .ref a), ("_chains", .ref b)]))) := f2.trans ((Fr.of (same_new hc)).trans (.upd (by simp)))
  have nc0 : H c = none := by
    cases e : H c with
    | none => rfl
    | some u => have := f2 c u (by simp; exact hoc.symm) e; rw [hc] at this; cases this
  generalize upd (upd H2 c (.lst [])) o (.ins C dx (putF "_bounds" (.ref c) [("_order", .ref a), ("_chains", .ref b)])) = H3 at H3a H3b H3c H3o f3
  refine wss_cons (ws_fld (we_of pe_dnewK fun d hd => we_name 0 rfl ⟨o, C, dx, _, rfl, same_new hd _ _ H3o, F.cls, F.n4, by simp, ?_⟩))
  have hod : o ≠ d := ne_of_none H3o hd
  have nd0 : H d = none := by
    cases e : H d with
    | none => rfl
    | some u => have := f3 d u (by simp; exact hod.symm) e; rw [hd] at this; cases this
  have K4 : KA C (upd (upd H3 d (.dK [])) o (.ins C dx (putF "_fillers" (.ref d) [("_order", .ref a), ("_chains", .ref b), ("_bounds", .ref c)]))) o dx a b c d [] [] [] [] :=
    ⟨hab, hac, hbc, upd_same, ⟨[], by rw [upd_ne hoa.symm]; exact same_new hd _ _ H3a, .nil⟩, ⟨[], by rw [upd_ne hob.symm]; exact same_new hd _ _ H3b, .nil⟩, ⟨[], by rw [upd_ne hoc.symm]; exact same_new hd _ _ H3c, .nil⟩, by rw [upd_ne hod.symm, upd_same]; rfl⟩
  have f4 : Fr [o] H (upd (upd H3 d (.dK [])) o (.ins C dx (putF "_fillers" (.ref d) [("_order", .ref a), ("_chains", .ref b), ("_bounds", .ref c)]))) := f3.trans ((Fr.of (same_new hd)).trans (.upd (by simp)))
  have tx4 : Tx H (upd (upd H3 d (.dK [])) o (.ins C dx (putF "_fillers" (.ref d) [("_order", .ref a), ("_chains", .ref b), ("_bounds", .ref c)]))) := f4.tx fun q hq xs e => by
    simp at hq
    subst hq
    rw [ho] at e; cases e
  have l4 := hl.fr f4 (by simp; exact hol) tx4
  generalize upd (upd H3 d (.dK [])) o (.ins C dx (putF "_fillers" (.ref d) [("_order", .ref a), ("_chains", .ref b), ("_bounds", .ref c)])) = H4 at K4 f4 l4
  -- for simplex in order: self.put(simplex)
  refine wss_one (ws_for (g := gName 2) (srcS_var 1 rfl l4) (pg_name sc_530.nd rfl (Or.inl rfl)) fun pq H5 s5 hpq => ?_)
  refine ⟨fun i σ' H' => σ'.length = 3 ∧ σ'[0]? = some (some (V.ref o)) ∧ Fr [o] H H' ∧ Tx H5 H' ∧ ∃ d' cs bs fl, H d' = none ∧ KA C H' o dx a b c d' (os.take i) cs bs fl ∧ KV (os.take i) cs bs ∧ RP bs fl (os.take i).length, ⟨rfl, rfl, f4.trans (.of s5), .refl _, d, [], [], [], nd0, by rw [List.take_zero]; exact K4.mono s5, by rw [List.take_zero]; exact KV.nil, by rw [List.take_zero]; exact .zero []⟩, fun i σ' H' _ hP => ?_, fun i dd σ' H' x H6 hdd hP s6 im => ?_, fun σ' H' hP => ?_⟩
  · refine ⟨hP.2.2.2.1, fun y e u hu => ?_⟩
    obtain ⟨e1, _⟩ := hpq y e
    subst e1
    obtain ⟨us, hus, _⟩ := hl
    have h1 := hP.2.2.1 y _ (by simp; exact hol) hus
    have h2 := (f4.trans (.of s5)) y _ (by simp; exact hol) hus
    rw [h2] at hu
    rw [h1, ← hu]
  · obtain ⟨g1, g2, g3, g4, d', cs, bs, fl, nd', KAi, KVi, RPi⟩ := hP
    rw [List.getElem?_map] at hdd
    cases hsi : os[i]? with
    | none => rw [hsi] at hdd; cases hdd
    | some t =>
      rw [hsi] at hdd
      cases hdd
      have hti : os.take (i + 1) = os.take i ++ [t] := by
        obtain ⟨h1, h2⟩ := List.getElem?_eq_some_iff.mp hsi
        rw [List.take_succ_eq_append_getElem h1, h2]
      show WSs _ _ _ (σ'.set 2 (some x)) H6
      have k1 : (σ'.set 2 (some x)).length = 3 := by rw [List.length_set]; exact g1
      have k0 : (σ'.set 2 (some x))[0]? = some (some (V.ref o)) := by rw [List.getElem?_set_ne (by decide)]; exact g2
      have k2 : (σ'.set 2 (some x))[2]? = some (some x) := List.getElem?_set_self (by omega)
      have K6 := KAi.mono s6
      refine wss_one (ws_expr (we_meth DP F.cls hr (we_name 0 k0 ⟨o, dx, _, rfl, K6.ho, rfl, wa_cons (we_name 2 k2 (wa_nil fun E' => ?_))⟩)))
      refine ⟨o, dx, a, b, c, d', os.take i, cs, bs, fl, t, x, rfl, im, K6, by rw [← hti]; exact OVh.take (i + 1), KVi, fun H7 d7 cs7 bs7 fl7 K7 V7 R7 f7 n7 => ?_⟩
      have nd7 : H d7 = none := by
        cases e : H d7 with
        | none => rfl
        | some u =>
          by_cases hz : d7 = o
          · subst hz; rw [K6.ho] at n7; cases n7
          · have := (g3.trans (.of s6)) d7 u (by simp; exact hz) e
            rw [n7] at this; cases this
      refine ⟨k1, k0, ?_, ?_, d7, cs7, bs7, fl7, nd7, by rw [hti]; exact K7, by rw [hti]; exact V7, by rw [hti]; exact R7⟩
      · exact (g3.trans (.of s6)).to f7 fun y hy => by
          simp at hy
          rcases hy with z | z | z | z | z
          · exact .inl (by simp [z])
          · exact .inr (by rw [z]; exact ha)
          · exact .inr (by rw [z]; exact nb0)
          · exact .inr (by rw [z]; exact nc0)
          · exact .inr (by rw [z]; exact nd')
      · exact (g4.trans (.of s6)).trans (f7.tx K6.notup)
  · obtain ⟨g1, g2, g3, g4, d', cs, bs, fl, nd', KAi, KVi, RPi⟩ := hP
    have el : os.take (os.map eS).length = os := by rw [List.length_map, List.take_length]
    rw [el] at KAi KVi RPi
    exact q' H' [o, a, b, c, d'] cs bs fl ⟨dx, a, b, c, d', rfl, KAi, OVh, KVi, RPi⟩ g3 fun y hy => by
      simp at hy
      rcases hy with z | z | z | z | z
      · exact .inl (by simp [z])
      · exact .inr (by rw [z]; exact ha)
      · exact .inr (by rw [z]; exact nb0)
      · exact .inr (by rw [z]; exact nc0)
      · exact .inr (by rw [z]; exact nd')
end
end K47
/-! C9: History: _move -/
namespace K47
open PySem PySem.Spec PyProof.Rows L2
/-- the facts of the class History -/
structure HFc (K : PySem.W.Frag) (C : Addr) : Prop where
  cls : Cls K C
  n1 : NoAttr K C "_shape"
  n2 : NoAttr K C "_kept"
  n3 : NoAttr K C "_done"
  n4 : NoAttr K C "_undone"
  n5 : NoAttr K C "_swaps"
theorem sw2_mid {α : Type} (P : List α) (x y : α) (R : List α) : sw2 (P ++ x :: y :: R) P.length = P ++ y :: x :: R := by
  unfold sw2
  have h1 : (P ++ x :: y :: R)[P.length]? = some x := by rw [List.getElem?_append_right (Nat.le_refl _)]; simp
  have h2 : (P ++ x :: y :: R)[P.length + 1]? = some y := by rw [List.getElem?_append_right (by omega)]; simp
  rw [h1, h2]
  show ((P ++ x :: y :: R).set P.length y).set (P.length + 1) x = _
  rw [List.set_append_right (h := Nat.le_refl _), List.set_append_right (h := by omega)]
  simp
/-- a simplex moved among others -/
inductive Mv : List Sim → Nat → Nat → List Sim → Prop
  | fw (A M B : List Sim) (s : Sim) (h : ∀ y ∈ M, s ∉ fc y) : Mv (A ++ s :: (M ++ B)) A.length (A.length + M.length) (A ++ (M ++ s :: B))
  | bw (A M B : List Sim) (s : Sim) (h : ∀ x ∈ M, x ∉ fc s) : Mv (A ++ (M ++ s :: B)) (A.length + M.length) A.length (A ++ s :: (M ++ B))
section
variable {P : Program} {w : World} {K : PySem.W.Frag} {mg : Str → Option Value} {base : Heap} {C CH : Addr}
def spMove (C CH : Addr) : Sp := fun vs H Q _ => ∃ (h dxh kp : Addr) (fs : List (Str × V)) (ow : List Addr) (os os' : List Sim) (cs bs : List (List Int)) (fl : List (Nat × Nat)) (i g : Nat), vs = [V.ref h, .int (i : Nat), .int (g : Nat)] ∧ H h = some (.ins CH dxh fs) ∧ fs.lookup ("_kept" : Str) = some (V.ref kp) ∧ h ∉ ow ∧ KS C H kp ow os cs bs fl ∧ Mv os i g os' ∧ i < 100 ∧ g < 100 ∧
  ∀ (r : Int) H' ow' cs' bs' fl', KS C H' kp ow' os' cs' bs' fl' → Fr ow H H' → Nw ow ow' H → Q (.int r) H'
theorem sc_5511 : FnScope ["self", "place", "goal", "at"] ["self", "place", "goal"] (defScope (inClass (top 55) 11)) := ⟨rfl, rfl, rfl, by decide +kernel, rfl, by decide +kernel, by decide +kernel⟩
theorem KS.swap {C : Addr} {H' : Hp} {o dx a b' c' d' : Addr} {os : List Sim} {cs' bs' : List (List Int)} {fl' : List (Nat × Nat)} {p : Nat} (O : OV (sw2 os p)) (A : KA C H' o dx a b' c' d' (sw2 os p) cs' bs' fl') (V : KV (sw2 os p) cs' bs') (R : RP bs' fl' os.length) : KS C H' o [o, a, b', c', d'] (sw2 os p) cs' bs' fl' :=
  ⟨dx, a, b', c', d', rfl, A, O, V, by rw [sw2_len]; exact R⟩
theorem ok_Hmove (M : Mg mg) (F : KF K C) (G : HFc K CH) (S : StandsM K CH "_move" "History._move" 55 11) (DW : Mt P w K mg base C "swap" 4 (spSwap C)) : Mt P w K mg base CH "_move" 5 (spMove C CH) := by
  refine mk_meth S sc_5511 (fun vs H Q E h => by obtain ⟨_, _, _, _, _, _, _, _, _, _, _, _, rfl, _⟩ := h; rfl) (fun _ _ _ _ _ _ us hl => match us, hl with | [_, _, _], _ => rfl) fun f cdv A outer s H vs Q E hr hsp => ?_
  obtain ⟨h, dxh, kp, fs, ow, os, os', cs, bs, fl, i, g, rfl, hh, hfk, how, KSh, hmv, hi, hg, q'⟩ := hsp
  have hv : L2.start ["self", "place", "goal", "at"] [V.ref h, .int (i : Nat), .int (g : Nat)] = [some (.ref h), some (.int (i : Nat)), some (.int (g : Nat)), none] := rfl
  rw [hv]
  have SP : ∀ (σ : L2.St) (H' : Hp), σ.length = 4 → σ[1]? = some (some (V.int (i : Nat))) → σ[2]? = some (some (V.int (g : Nat))) → Sl H' σ [none, some (.d (.int (i : Nat))), some (.d (.int (g : Nat))), none] := fun σ H' hl h1 h2 =>
    ⟨hl.symm, fun i r e => by
      match i with
      | 0 => cases e
      | 1 => cases e; exact ⟨_, h1, .int _⟩
      | 2 => cases e; exact ⟨_, h2, .int _⟩
      | 3 => cases e
      | i + 4 => cases e⟩
  -- one loop
  have loop : ∀ (iter : Expr) (p1 p2 p3 p4 p5 p6 p7 p8 : Pos) (ds : List PyData) (St : Nat → List Sim) (pos : Nat → Nat) (σ : L2.St) (H1 : Hp) (ow1 : List Addr) (cs1 bs1 : List (List Int)) (fl1 : List (Nat × Nat)) (D : Ends) (pl : Sem Bool), (eval (.Call (.Attribute (.Attribute (.Name "self" p2) "_kept" p3) "swap" p4) [.Name "at" p5] [] p6) (cxOf CX0 P w K mg base ["self", "place", "goal", "at"] "History._move" (defScope (inClass (top 55) 11)) f cdv A outer s H E).nox.env = (do
        let ov ← eval (.Attribute (.Name "self" p2) "_kept" p3) (cxOf CX0 P w K mg base ["self", "place", "goal", "at"] "History._move" (defScope (inClass (top 55) 11)) f cdv A outer s H E).nox.env
        standAt p4.atName
        let (fn, first) ← holding [ov] (getMethod ov "swap" pl)
        callWith p6 fn first (backTo p6 (starEach [.Name "at" p5] (cxOf CX0 P w K mg base ["self", "place", "goal", "at"] "History._move" (defScope (inClass (top 55) 11)) f cdv A outer s H E).nox.env)) (backToKw p6 (keywordEach [] (cxOf CX0 P w K mg base ["self", "place", "goal", "at"] "History._move" (defScope (inClass (top 55) 11)) f cdv A outer s H E).nox.env)))) → (∀ x, foldedSetIterable iter (cxOf CX0 P w K mg base ["self", "place", "goal", "at"] "History._move" (defScope (inClass (top 55) 11)) f cdv A outer s H E).nox.env x = pure x) →
      (∀ (t : Nat) (d : PyData), ds[t]? = some d → d = .int (pos t : Nat) ∧ St (t + 1) = sw2 (St t) (pos t) ∧ ∃ x y, (St t)[pos t]? = some x ∧ (St t)[pos t + 1]? = some y ∧ x ∉ fc y) →
      σ.length = 4 → σ[0]? = some (some (V.ref h)) → σ[1]? = some (some (V.int (i : Nat))) → σ[2]? = some (some (V.int (g : Nat))) → Fr ow H H1 → Nw ow ow1 H → KS C H1 kp ow1 (St 0) cs1 bs1 fl1 →
      SrcS (cxOf CX0 P w K mg base ["self", "place", "goal", "at"] "History._move" (defScope (inClass (top 55) 11)) f cdv A outer s H E).nox (.Name "at" p1) iter σ H1 ds (fun _ => False) →
      (∀ σ' H' ow' cs' bs' fl', σ'.length = 4 → σ'[0]? = some (some (V.ref h)) → σ'[1]? = some (some (V.int (i : Nat))) → σ'[2]? = some (some (V.int (g : Nat))) → Fr ow H H' → Nw ow ow' H → KS C H' kp ow' (St ds.length) cs' bs' fl' → D.nx σ' H') →
      WS (cxOf CX0 P w K mg base ["self", "place", "goal", "at"] "History._move" (defScope (inClass (top 55) 11)) f cdv A outer s H E).nox (.For (.Name "at" p1) iter [.Expr (.Call (.Attribute (.Attribute (.Name "self" p2) "_kept" p3) "swap" p4) [.Name "at" p5] [] p6) p7] [] p8) D σ H1 := by
    intro iter p1 p2 p3 p4 p5 p6 p7 p8 ds St pos σ H1 ow1 cs1 bs1 fl1 D pl hev hfs hds l4 l0 l1 l2 fH nH KS1 hsrc hD
    refine ws_for (g := gName 3) hsrc (pg_name sc_5511.nd rfl (Or.inl rfl)) (fun pq H2 s2 hpq => ?_) (hs := hfs)
    have hpn : pq = none := by
      cases pq with
      | none => rfl
      | some x => exact absurd (hpq x rfl).1 id
    subst hpn
    refine ⟨fun t σ' H' => σ'.length = 4 ∧ σ'[0]? = some (some (V.ref h)) ∧ σ'[1]? = some (some (V.int (i : Nat))) ∧ σ'[2]? = some (some (V.int (g : Nat))) ∧ Tx H2 H' ∧ Fr ow H H' ∧ ∃ ow' cs' bs' fl', Nw ow ow' H ∧ KS C H' kp ow' (St t) cs' bs' fl', ⟨l4, l0, l1, l2, .refl _, fH.trans (.of s2), ow1, cs1, bs1, fl1, nH, KS1.mono s2⟩, fun t σ' H' _ hP => ⟨hP.2.2.2.2.1, fun x e => nomatch e⟩, fun t dd σ' H' x H3 hdd hP s3 im => ?_, fun σ' H' hP => ?_⟩
    · obtain ⟨g4, g0, g1, g2, gt, gf, ow', cs', bs', fl', gn, gk⟩ := hP
      obtain ⟨rfl, hSt, x1, y1, hx1, hy1, hn1⟩ := hds t dd hdd
      cases im
      show WSs _ _ _ (σ'.set 3 (some (.int (pos t : Nat)))) H3
      have k4 : (σ'.set 3 (some (V.int (pos t : Nat)))).length = 4 := by rw [List.length_set]; exact g4
      have k0 : (σ'.set 3 (some (V.int (pos t : Nat))))[0]? = some (some (V.ref h)) := by rw [List.getElem?_set_ne (by decide)]; exact g0
      have k1 : (σ'.set 3 (some (V.int (pos t : Nat))))[1]? = some (some (V.int (i : Nat))) := by rw [List.getElem?_set_ne (by decide)]; exact g1
      have k2 : (σ'.set 3 (some (V.int (pos t : Nat))))[2]? = some (some (V.int (g : Nat))) := by rw [List.getElem?_set_ne (by decide)]; exact g2
      have k3 : (σ'.set 3 (some (V.int (pos t : Nat))))[3]? = some (some (V.int (pos t : Nat))) := List.getElem?_set_self (by omega)
      obtain ⟨dx, a, b, c, d, e1, KA3, O3, V3, R3⟩ := gk.mono s3
      subst e1
      have hh3 : H3 h = some (.ins CH dxh fs) := s3 _ _ (gf h _ how hh)
      refine wss_one (ws_expr (we_meth DW F.cls hr (we_fld (we_name 0 k0 ⟨h, CH, dxh, fs, V.ref kp, rfl, hh3, G.cls, G.n2, hfk, ⟨kp, dx, _, rfl, KA3.ho, rfl, wa_cons (we_name 3 k3 (wa_nil fun E' => ?_))⟩⟩)) (ht := hev)))
      refine ⟨kp, dx, a, b, c, d, St t, cs', bs', fl', pos t, x1, y1, rfl, KA3, O3, V3, R3, hx1, hy1, hn1, fun v H' b7 c7 d7 cs7 bs7 fl7 K7 V7 R7 f7 nb nc nd => ?_⟩
      refine ⟨k4, k0, k1, k2, gt.trans ((Tx.of s3).trans (f7.tx KA3.notup)), ?_, [kp, a, b7, c7, d7], cs7, bs7, fl7, ?_, ?_⟩
      · exact (gf.trans (.of s3)).to f7 gn
      · refine Nw.trans (ow1 := [kp, a, b, c, d]) gn (gf.trans (.of s3)) fun x hx => ?_
        simp at hx
        rcases hx with z | z | z | z | z
        · exact .inl (by simp [z])
        · exact .inl (by simp [z])
        · exact .inr (by rw [z]; exact nb)
        · exact .inr (by rw [z]; exact nc)
        · exact .inr (by rw [z]; exact nd)
      · rw [hSt]
        exact KS.swap (O3.swap hx1 hy1 hn1) K7 V7 R7
    · obtain ⟨g4, g0, g1, g2, gt, gf, ow', cs', bs', fl', gn, gk⟩ := hP
      exact hD σ' H' ow' cs' bs' fl' g4 g0 g1 g2 gf gn gk
  have fin : ∀ (σ' : L2.St) (H' : Hp) (ow' : List Addr) (cs' bs' : List (List Int)) (fl' : List (Nat × Nat)), σ'.length = 4 → σ'[1]? = some (some (V.int (i : Nat))) → σ'[2]? = some (some (V.int (g : Nat))) → Fr ow H H' → Nw ow ow' H → KS C H' kp ow' os' cs' bs' fl' →
      WSs (cxOf CX0 P w K mg base ["self", "place", "goal", "at"] "History._move" (defScope (inClass (top 55) 11)) f cdv A outer s H E).nox ((defBody (inClass (top 55) 11)).drop 2) { nx := fun _ H' => Q .non H', rt := Q } σ' H' := fun σ' H' ow' cs' bs' fl' l4 l1 l2 f' n' k' =>
    wss_one (ws_retW (we_pu (SP σ' H' l4 l1 l2) (pu_abs M (pu_sub (pu_var 2) (pu_var 1))) fun v H2 s2 a2 => by
      cases a2
      exact q' _ H2 ow' cs' bs' fl' (k'.mono s2) (f'.trans (.of s2)) n'))
  cases hmv with
  | fw A0 M0 B0 t hM =>
    have e1 : ∀ t' : Nat, t' < M0.length → ∃ y, M0[t']? = some y ∧ M0.drop t' = y :: M0.drop (t' + 1) ∧ M0.take (t' + 1) = M0.take t' ++ [y] ∧ y ∈ M0 := fun t' ht => ⟨M0[t'], List.getElem?_eq_getElem ht, List.drop_eq_getElem_cons ht, List.take_succ_eq_append_getElem ht, List.getElem_mem ht⟩
    refine wss_cons (loop _ _ _ _ _ _ _ _ _ (rngD (A0.length : Nat) ((((A0.length + M0.length : Nat) : Int) - (A0.length : Nat)).toNat)) (fun t' => A0 ++ (M0.take t' ++ t :: (M0.drop t' ++ B0))) (fun t' => A0.length + t') _ H ow cs bs fl _ _ (by rfl) (by intro _; rfl) (fun t' d hd => ?_) rfl rfl rfl rfl (.of (Same.refl _)) (.refl _ _) (by simpa using KSh) (srcS_rng2 M (SP _ H rfl rfl rfl) (pu_var 1) (pu_var 2) (by omega)) fun σ' H' ow' cs' bs' fl' g4 g0 g1 g2 gf gn gk => ?_)
    · have hlt : t' < M0.length := by
        have := (List.getElem?_eq_some_iff.mp hd).1
        rw [rngD_len] at this; omega
      rw [rngD_at (by omega)] at hd
      obtain ⟨y, hy1, hy2, hy3, hy4⟩ := e1 t' hlt
      have el : (A0 ++ M0.take t').length = A0.length + t' := by rw [List.length_append, List.length_take]; omega
      have es : A0 ++ (M0.take t' ++ t :: (M0.drop t' ++ B0)) = (A0 ++ M0.take t') ++ t :: y :: (M0.drop (t' + 1) ++ B0) := by rw [hy2]; simp
      refine ⟨by cases hd; first | rfl | (congr 1; done) | (congr 1; omega), ?_, t, y, ?_, ?_, hM y hy4⟩
      · show _ = sw2 (A0 ++ (M0.take t' ++ t :: (M0.drop t' ++ B0))) (A0.length + t')
        rw [es, ← el, sw2_mid, hy3]; simp
      · show (A0 ++ (M0.take t' ++ t :: (M0.drop t' ++ B0)))[A0.length + t']? = _
        rw [es, ← el, List.getElem?_append_right (Nat.le_refl _)]; simp
      · show (A0 ++ (M0.take t' ++ t :: (M0.drop t' ++ B0)))[A0.length + t' + 1]? = _
        rw [es, ← el, List.getElem?_append_right (by omega)]; simp
    · rw [rngD_len] at gk
      have em : (((A0.length + M0.length : Nat) : Int) - (A0.length : Nat)).toNat = M0.length := by omega
      rw [em] at gk
      have gk : KS C H' kp ow' (A0 ++ (M0 ++ t :: B0)) cs' bs' fl' := by simpa using gk
      refine wss_cons (loop _ _ _ _ _ _ _ _ _ (rngDn ((A0.length : Nat) - 1) ((((A0.length : Nat) : Int) - 1) - (((A0.length + M0.length : Nat) : Int) - 1)).toNat) (fun _ => A0 ++ (M0 ++ t :: B0)) (fun _ => 0) σ' H' ow' cs' bs' fl' _ _ (by rfl) (by intro _; rfl) (fun t' d hd => ?_) g4 g0 g1 g2 gf gn gk (srcS_rngDn M (SP σ' H' g4 g1 g2) (pu_sub (pu_var 1) pu_int) (pu_sub (pu_var 2) pu_int) (pu_neg pu_int) (by omega)) fun σ2 H2 ow2 cs2 bs2 fl2 k4 k0 k1 k2 kf kn kk => fin σ2 H2 ow2 cs2 bs2 fl2 k4 k1 k2 kf kn kk)
      exfalso
      have := (List.getElem?_eq_some_iff.mp hd).1
      simp [rngDn] at this
      omega
  | bw A0 M0 B0 t hM =>
    refine wss_cons (loop _ _ _ _ _ _ _ _ _ (rngD ((A0.length + M0.length : Nat)) ((((A0.length : Nat) : Int) - ((A0.length + M0.length : Nat) : Int)).toNat)) (fun _ => A0 ++ (M0 ++ t :: B0)) (fun _ => 0) _ H ow cs bs fl _ _ (by rfl) (by intro _; rfl) (fun t' d hd => ?_) rfl rfl rfl rfl (.of (Same.refl _)) (.refl _ _) KSh (srcS_rng2 M (SP _ H rfl rfl rfl) (pu_var 1) (pu_var 2) (by omega)) fun σ' H' ow' cs' bs' fl' g4 g0 g1 g2 gf gn gk => ?_)
    · exfalso
      have := (List.getElem?_eq_some_iff.mp hd).1
      rw [rngD_len] at this
      omega
    · refine wss_cons (loop _ _ _ _ _ _ _ _ _ (rngDn (((A0.length + M0.length : Nat) : Int) - 1) ((((A0.length + M0.length : Nat) : Int) - 1) - (((A0.length : Nat) : Int) - 1)).toNat) (fun t' => A0 ++ (M0.take (M0.length - t') ++ t :: (M0.drop (M0.length - t') ++ B0))) (fun t' => A0.length + (M0.length - 1 - t')) σ' H' ow' cs' bs' fl' _ _ (by rfl) (by intro _; rfl) (fun t' d hd => ?_) g4 g0 g1 g2 gf gn (by simpa using gk) (srcS_rngDn M (SP σ' H' g4 g1 g2) (pu_sub (pu_var 1) pu_int) (pu_sub (pu_var 2) pu_int) (pu_neg pu_int) (by omega)) fun σ2 H2 ow2 cs2 bs2 fl2 k4 k0 k1 k2 kf kn kk => fin σ2 H2 ow2 cs2 bs2 fl2 k4 k1 k2 kf kn ?_)
      · have hlt : t' < M0.length := by
          have := (List.getElem?_eq_some_iff.mp hd).1
          simp [rngDn] at this; omega
        have hd2 : d = .int (((A0.length + M0.length : Nat) : Int) - 1 - (t' : Nat)) := by
          unfold rngDn at hd
          rw [List.getElem?_map, List.getElem?_range (by omega)] at hd
          exact (Option.some.inj hd).symm
        have hm : M0.length - 1 - t' < M0.length := by omega
        have hx2 : M0.drop (M0.length - 1 - t') = M0[M0.length - 1 - t'] :: M0.drop (M0.length - t') := by
          have := List.drop_eq_getElem_cons hm
          rw [show M0.length - 1 - t' + 1 = M0.length - t' by omega] at this; exact this
        have hx3 : M0.take (M0.length - t') = M0.take (M0.length - 1 - t') ++ [M0[M0.length - 1 - t']] := by
          have := List.take_succ_eq_append_getElem hm
          rw [show M0.length - 1 - t' + 1 = M0.length - t' by omega] at this; exact this
        have el : (A0 ++ M0.take (M0.length - 1 - t')).length = A0.length + (M0.length - 1 - t') := by rw [List.length_append, List.length_take]; omega
        have es : A0 ++ (M0.take (M0.length - t') ++ t :: (M0.drop (M0.length - t') ++ B0)) = (A0 ++ M0.take (M0.length - 1 - t')) ++ M0[M0.length - 1 - t'] :: t :: (M0.drop (M0.length - t') ++ B0) := by rw [hx3]; simp only [List.append_assoc, List.cons_append, List.nil_append, List.singleton_append]
        refine ⟨by rw [hd2]; congr 1; omega, ?_, M0[M0.length - 1 - t'], t, ?_, ?_, hM _ (List.getElem_mem hm)⟩
        · show A0 ++ (M0.take (M0.length - (t' + 1)) ++ t :: (M0.drop (M0.length - (t' + 1)) ++ B0)) = sw2 (A0 ++ (M0.take (M0.length - t') ++ t :: (M0.drop (M0.length - t') ++ B0))) (A0.length + (M0.length - 1 - t'))
          rw [es, ← el, sw2_mid, show M0.length - (t' + 1) = M0.length - 1 - t' by omega, hx2]; simp
        · show (A0 ++ (M0.take (M0.length - t') ++ t :: (M0.drop (M0.length - t') ++ B0)))[A0.length + (M0.length - 1 - t')]? = _
          rw [es, ← el, List.getElem?_append_right (Nat.le_refl _)]; simp
        · show (A0 ++ (M0.take (M0.length - t') ++ t :: (M0.drop (M0.length - t') ++ B0)))[A0.length + (M0.length - 1 - t') + 1]? = _
          rw [es, ← el, List.getElem?_append_right (by omega)]; simp
      · have el : (rngDn (((A0.length + M0.length : Nat) : Int) - 1) ((((A0.length + M0.length : Nat) : Int) - 1) - (((A0.length : Nat) : Int) - 1)).toNat).length = M0.length := by simp [rngDn]; omega
        rw [el] at kk
        simpa using kk
end
end K47
/-! M7: the order of a shape, and how an edit moves it. -/
namespace K47
open PySem PySem.Spec PyProof.Rows L2
def ordOf (l : List Itm) : List Sim := l.map (·.1)
theorem ltI_face {f s : Sim} {h' h : Int} (hf : f ∈ fc s) (hh : h' ≤ h) : ltI (f, h') (s, h) := by
  have := fc_ne hf
  unfold ltI
  by_cases e : h' < h
  · exact .inl e
  · exact .inr ⟨by show h' = h; omega, .inl this⟩
theorem sorted_lt {l : List Itm} (hs : l.Pairwise fun a b => leI a b = true) {i j : Nat} {p q : Itm} (hi : l[i]? = some p) (hj : l[j]? = some q) (h : ltI p q) : i < j := by
  rcases Nat.lt_trichotomy i j with z | z | z
  · exact z
  · subst z
    rw [hi] at hj
    cases hj
    exact absurd h (ltI_irrefl p)
  · exfalso
    obtain ⟨h1, h2⟩ := List.getElem?_eq_some_iff.mp hi
    obtain ⟨h3, h4⟩ := List.getElem?_eq_some_iff.mp hj
    have := List.pairwise_iff_getElem.mp hs j i h3 h1 z
    rw [h2, h4, leI_eq] at this
    simp at this
    exact this h
/-- the order of a right shape is right -/
theorem OV_of {l : List Itm} (V : VS l) (hs : gr l = l) : OV (ordOf l) where
  len := by unfold ordOf; rw [List.length_map]; exact V.len
  nd := V.nd
  sx := fun s h => by
    obtain ⟨p, hp, rfl⟩ := List.mem_map.mp h
    exact V.sx p hp
  fb := fun j s h f hf => by
    unfold ordOf at h
    rw [List.getElem?_map] at h
    cases hp : l[j]? with
    | none => rw [hp] at h; cases h
    | some p =>
      rw [hp] at h
      cases h
      obtain ⟨h', m, le⟩ := V.fc p (List.mem_of_getElem? hp) f hf
      obtain ⟨i, hi⟩ := List.mem_iff_getElem?.mp m
      have hlt := sorted_lt (by rw [← hs]; exact gr_sorted l) hi hp (ltI_face hf le)
      rw [List.mem_iff_getElem?]
      refine ⟨i, ?_⟩
      rw [List.getElem?_take, if_pos hlt]
      unfold ordOf
      rw [List.getElem?_map, hi]; rfl
theorem split_at {os : List Sim} (nd : os.Nodup) {s : Sim} (h : s ∈ os) : ∃ A B, os = A ++ s :: B ∧ os.idxOf s = A.length ∧ A ++ B = os.filter fun t => decide (t ≠ s) := by
  induction os with
  | nil => simp at h
  | cons t r ih =>
    rw [List.nodup_cons] at nd
    by_cases e : t = s
    · subst e
      refine ⟨[], r, rfl, by simp, ?_⟩
      rw [List.filter_cons_of_neg (by simp)]
      symm
      show r.filter _ = r
      rw [List.filter_eq_self]
      intro a ha
      have : a ≠ t := fun z => nd.1 (by rw [← z]; exact ha)
      simp [this]
    · have hm : s ∈ r := by
        rcases List.mem_cons.mp h with z | z
        · exact absurd z.symm e
        · exact z
      obtain ⟨A, B, h1, h2, h3⟩ := ih nd.2 hm
      refine ⟨t :: A, B, by rw [h1]; rfl, ?_, ?_⟩
      · rw [List.idxOf_cons]
        have : (t == s) = false := by simp [e]
        rw [this]
        simp [h2]
      · rw [List.filter_cons_of_pos (by simp [e]), ← h3]; rfl
theorem ord_wo (l : List Itm) (s : Sim) : ordOf (wo l s) = (ordOf l).filter fun t => decide (t ≠ s) := by
  unfold ordOf wo
  rw [List.filter_map]; rfl
/-- from one right order to another -/
theorem mv_of {A1 B1 A2 B2 : List Sim} {s : Sim} (e : A1 ++ B1 = A2 ++ B2) (O : OV (A2 ++ s :: B2)) : Mv (A1 ++ s :: B1) A1.length A2.length (A2 ++ s :: B2) := by
  have nd := O.nd
  rcases List.append_eq_append_iff.mp e with ⟨M, h1, h2⟩ | ⟨M, h1, h2⟩
  · subst h1 h2
    have := Mv.fw A1 M B2 s fun y hy hs => by
      obtain ⟨j, hj⟩ := List.mem_iff_getElem?.mp hy
      have hjl := (List.getElem?_eq_some_iff.mp hj).1
      have h3 : ((A1 ++ M) ++ s :: B2)[A1.length + j]? = some y := by
        rw [List.getElem?_append_left (by rw [List.length_append]; omega), List.getElem?_append_right (by omega)]
        rw [show A1.length + j - A1.length = j by omega]; exact hj
      have h4 := O.fb _ y h3 s hs
      rw [List.take_append_of_le_length (by rw [List.length_append]; omega)] at h4
      have h5 := List.mem_of_mem_take h4
      exact (List.nodup_append.mp nd).2.2 s h5 s (by simp) rfl
    rw [List.length_append]
    simpa using this
  · subst h1 h2
    have := Mv.bw A2 M B1 s fun x hx hs => by
      have h3 : (A2 ++ s :: (M ++ B1))[A2.length]? = some s := by rw [List.getElem?_append_right (Nat.le_refl _)]; simp
      have h4 := O.fb _ s h3 x hs
      rw [List.take_append_of_le_length (Nat.le_refl _), List.take_length] at h4
      exact (List.nodup_append.mp nd).2.2 x h4 x (by simp [hx]) rfl
    rw [List.length_append]
    simpa using this
theorem wo_appS {l : List Itm} (hs : gr l = l) (e : Ed) : wo (app l e) e.sim = wo l e.sim := by
  rw [wo_appE, ← wo_gr, hs]
/-- height: the order moves -/
theorem mv_ht {l : List Itm} {s : Sim} {h : Int} (V : VS l) (hs : gr l = l) (c : Can l (.ht s h)) : Mv (ordOf l) ((ordOf l).idxOf s) ((ordOf (app l (.ht s h))).idxOf s) (ordOf (app l (.ht s h))) := by
  have O := OV_of V hs
  have O2 := OV_of (V.app c) (app_sorted l (.ht s h))
  have m2 : s ∈ ordOf (app l (.ht s h)) := List.mem_map.mpr ⟨(s, h), app_mem.mpr (.inr (by simp [Ed.add])), rfl⟩
  obtain ⟨A1, B1, h1, h2, h3⟩ := split_at O.nd (s := s) c.1
  obtain ⟨A2, B2, g1, g2, g3⟩ := split_at O2.nd m2
  rw [h2, g2, h1, g1]
  refine mv_of ?_ (by rw [← g1]; exact O2)
  rw [h3, g3, ← ord_wo, ← ord_wo]
  have := wo_appS hs (.ht s h)
  rw [show (Ed.ht s h).sim = s from rfl] at this
  rw [this]
/-- add: behind, then to its place -/
theorem ov_ad {l : List Itm} {s : Sim} {h : Int} (V : VS l) (hs : gr l = l) (c : Can l (.ad s h)) : OV (ordOf l ++ [s]) := by
  have O := OV_of V hs
  obtain ⟨c1, c2, c3⟩ := c
  refine ⟨by rw [List.length_append]; unfold ordOf; simp; omega, ?_, fun t ht => ?_, fun j t ht f hf => ?_⟩
  · rw [List.nodup_append]
    exact ⟨O.nd, by simp, fun a ha b hb e => by simp at hb; rw [e, hb] at ha; exact c1 ha⟩
  · rcases List.mem_append.mp ht with z | z
    · exact O.sx t z
    · rw [List.mem_singleton.mp z]; exact c3.1
  · by_cases e : j < (ordOf l).length
    · rw [List.getElem?_append_left e] at ht
      have := O.fb j t ht f hf
      rw [List.take_append_of_le_length (by omega)]; exact this
    · rw [List.getElem?_append_right (by omega)] at ht
      have e2 : j - (ordOf l).length = 0 := by
        rcases Nat.eq_zero_or_pos (j - (ordOf l).length) with z | z
        · exact z
        · rw [List.getElem?_eq_none (by simp; omega)] at ht; cases ht
      rw [e2] at ht
      simp at ht
      subst ht
      obtain ⟨h', m, _⟩ := c3.2.2.2.1 f hf
      have ej : j = (ordOf l).length := by omega
      rw [ej, List.take_append_of_le_length (Nat.le_refl _), List.take_length]
      exact List.mem_map.mpr ⟨_, m, rfl⟩
theorem mv_ad {l : List Itm} {s : Sim} {h : Int} (V : VS l) (hs : gr l = l) (c : Can l (.ad s h)) : Mv (ordOf l ++ [s]) ((ordOf l ++ [s]).idxOf s) ((ordOf (app l (.ad s h))).idxOf s) (ordOf (app l (.ad s h))) := by
  have O1 := ov_ad V hs c
  have O2 := OV_of (V.app c) (app_sorted l (.ad s h))
  have m2 : s ∈ ordOf (app l (.ad s h)) := List.mem_map.mpr ⟨(s, h), app_mem.mpr (.inr (by simp [Ed.add])), rfl⟩
  obtain ⟨A1, B1, h1, h2, h3⟩ := split_at O1.nd (s := s) (by simp)
  obtain ⟨A2, B2, g1, g2, g3⟩ := split_at O2.nd m2
  rw [h2, g2, h1, g1]
  refine mv_of ?_ (by rw [← g1]; exact O2)
  rw [h3, g3, ← ord_wo]
  have := wo_appS hs (.ad s h)
  rw [show (Ed.ad s h).sim = s from rfl] at this
  rw [this, ord_wo, List.filter_append]
  simp
/-- take: to the end, then off -/
theorem mv_tk {l : List Itm} {s : Sim} (V : VS l) (hs : gr l = l) (c : Can l (.tk s)) : Mv (ordOf l) ((ordOf l).idxOf s) ((ordOf l).length - 1) (ordOf (app l (.tk s)) ++ [s]) := by
  have O := OV_of V hs
  obtain ⟨A1, B1, h1, h2, h3⟩ := split_at O.nd (s := s) c.1
  have e : ordOf (app l (.tk s)) = A1 ++ B1 := by
    rw [h3, ← ord_wo]
    show ordOf (gr (wo l s ++ [])) = _
    rw [List.append_nil, ← wo_gr, hs]
  have hl : (ordOf l).length - 1 = A1.length + B1.length := by rw [h1]; simp <;> omega
  rw [h2, hl, e]
  have hm : ∀ y ∈ B1, s ∉ fc y := fun y hy => by
    have : y ∈ ordOf l := by rw [h1]; simp [hy]
    obtain ⟨p, hp, rfl⟩ := List.mem_map.mp this
    exact c.2 p hp
  have := Mv.fw A1 B1 [] s hm
  rw [h1]
  simpa using this
theorem mv_lt {os os' : List Sim} {i g : Nat} (m : Mv os i g os') (h : os.length ≤ 60) : i < 100 ∧ g < 100 := by
  cases m with
  | fw A M B s _ => simp at h; omega
  | bw A M B s _ => simp at h; omega
end K47
/-! C10: History, what it holds; _carry_single -/
namespace K47
open PySem PySem.Spec PyProof.Rows L2
def hf (sh kp dn un : Addr) (n : Int) : List (Str × V) := [("_shape", .ref sh), ("_kept", .ref kp), ("_done", .ref dn), ("_undone", .ref un), ("_swaps", .int n)]
/-- a step: an edit and the one that leads back -/
def eSt (p : Fe × Fe) : PyData := .tuple [eF p.1, eF p.2]
/-- the parts that do not go with the shape -/
structure HB (CH : Addr) (H : Hp) (h dxh sh kp dn un : Addr) (n : Int) (ow : List Addr) (ds us : List (Fe × Fe)) : Prop where
  hh : H h = some (.ins CH dxh (hf sh kp dn un n))
  hd : Ls H dn (ds.map eSt)
  hu : Ls H un (us.map eSt)
  d1 : sh ≠ dn
  d2 : sh ≠ un
  d3 : dn ≠ un
  o1 : h ∉ ow
  o2 : sh ∉ ow
  o3 : dn ∉ ow
  o4 : un ∉ ow
/-- a History of the shape l -/
structure HA (C CH : Addr) (H : Hp) (h dxh sh kp dn un : Addr) (n : Int) (ow : List Addr) (ds us : List (Fe × Fe)) (l : List Itm) (cs bs : List (List Int)) (fl : List (Nat × Nat)) : Prop where
  hb : HB CH H h dxh sh kp dn un n ow ds us
  hs : Ls H sh (l.map eTI)
  ks : KS C H kp ow (ordOf l) cs bs fl
  vs : VS l
  st : gr l = l
def Ed.word : Ed → Str
  | .ht _ _ => "height"
  | .ad _ _ => "add"
  | .tk _ => "take"
def Ed.isT : Ed → Bool
  | .tk _ => true
  | _ => false
def Ed.isA : Ed → Bool
  | .ad _ _ => true
  | _ => false
def eEl : Ed → List PyData
  | .ht s h => [.str "height", eS s, .int h]
  | .ad s h => [.str "add", eS s, .int h]
  | .tk s => [.str "take", eS s]
theorem eE_eq (e : Ed) : eE e = .tuple (eEl e) := by cases e <;> rfl
theorem eEl0 (e : Ed) : (eEl e)[0]? = some (.str e.word) := by cases e <;> rfl
theorem eEl1 (e : Ed) : (eEl e)[1]? = some (eS e.sim) := by cases e <;> rfl
theorem isT_eq (e : Ed) : decide (e.word = "take") = e.isT := by
  cases e with
  | ht s h => exact w_ht
  | ad s h => exact w_at
  | tk s => exact w_tt
theorem isA_eq (e : Ed) : decide (e.word = "add") = e.isA := by
  cases e with
  | ht s h => exact w_ha
  | ad s h => exact w_aa
  | tk s => exact w_ta
section
variable {X : Cx} {Γ : Gm} {x : Expr} {pos pos' p1 p2 : Pos} {e : Ed}
/-- edit[0] == 'take', edit[0] == 'add', edit[1] -/
theorem put_isT {k1 k2} (h : Pu X Γ x (.d (eE e))) (hm : behindInMarks .Eq (.Constant (.str "take") k2 p2) = false := by rfl) : PuT X Γ (.Compare (.Subscript x (.Constant (.int 0) k1 p1) pos) [.Eq] [.Constant (.str "take") k2 p2] pos') e.isT :=
  (put_cmp op_eq rv_eqS hm (pu_ixT (h.to (by rw [eE_eq])) pu_int (atI_nat' (n := 0) (eEl0 e) rfl)) pu_str).to (isT_eq e)
theorem put_isA {k1 k2} (h : Pu X Γ x (.d (eE e))) (hm : behindInMarks .Eq (.Constant (.str "add") k2 p2) = false := by rfl) : PuT X Γ (.Compare (.Subscript x (.Constant (.int 0) k1 p1) pos) [.Eq] [.Constant (.str "add") k2 p2] pos') e.isA :=
  (put_cmp op_eq rv_eqS hm (pu_ixT (h.to (by rw [eE_eq])) pu_int (atI_nat' (n := 0) (eEl0 e) rfl)) pu_str).to (isA_eq e)
theorem pu_esim {k1} (h : Pu X Γ x (.d (eE e))) : Pu X Γ (.Subscript x (.Constant (.int 1) k1 p1) pos) (.d (eS e.sim)) := pu_ixT (h.to (by rw [eE_eq])) pu_int (atI_nat' (n := 1) (eEl1 e) rfl)
end
theorem HB.mono {CH : Addr} {H H' : Hp} {h dxh sh kp dn un : Addr} {n : Int} {ow : List Addr} {ds us : List (Fe × Fe)} (B : HB CH H h dxh sh kp dn un n ow ds us) (s : Same H H') : HB CH H' h dxh sh kp dn un n ow ds us :=
  ⟨s _ _ B.hh, B.hd.mono s, B.hu.mono s, B.d1, B.d2, B.d3, B.o1, B.o2, B.o3, B.o4⟩
theorem HA.mono {C CH : Addr} {H H' : Hp} {h dxh sh kp dn un : Addr} {n : Int} {ow : List Addr} {ds us : List (Fe × Fe)} {l : List Itm} {cs bs : List (List Int)} {fl : List (Nat × Nat)} (A : HA C CH H h dxh sh kp dn un n ow ds us l cs bs fl) (s : Same H H') : HA C CH H' h dxh sh kp dn un n ow ds us l cs bs fl :=
  ⟨A.hb.mono s, A.hs.mono s, A.ks.mono s, A.vs, A.st⟩
theorem notin_nw {ow ow' : List Addr} {H : Hp} {x : Addr} (n : Nw ow ow' H) (h : x ∉ ow) (hx : H x ≠ none) : x ∉ ow' := fun m => by
  rcases n x m with z | z
  · exact h z
  · exact hx z
theorem ls_some {H : Hp} {a : Addr} {ds : List PyData} (l : Ls H a ds) : H a ≠ none := fun n => ls_not_none l n
/-- .. behind what also changed h -/
theorem Nw.trans' {ow ow1 ow2 : List Addr} {H H1 : Hp} {h : Addr} (a : Nw ow ow1 H) (f : Fr (h :: ow) H H1) (b : Nw ow1 ow2 H1) (hh : h ∉ ow1) (hne : H1 h ≠ none := by assumption) : Nw ow ow2 H := fun x m => by
  rcases b x m with z | z
  · exact a x z
  · by_cases mo : x ∈ ow
    · exact .inl mo
    · right
      by_cases e : x = h
      · subst e; exact absurd z hne
      · cases q : H x with
        | none => rfl
        | some u => rw [f x u (by simp [e, mo]) q] at z; cases z
/-- the Kept changes -/
theorem HB.kept {C CH : Addr} {H H' : Hp} {h dxh sh kp dn un : Addr} {n : Int} {ow ow' : List Addr} {ds us : List (Fe × Fe)} {os : List Sim} {cs bs : List (List Int)} {fl : List (Nat × Nat)} (B : HB CH H h dxh sh kp dn un n ow ds us) (k : KS C H kp ow os cs bs fl) (hsh : H sh ≠ none) (f : Fr ow H H') (nw : Nw ow ow' H) : HB CH H' h dxh sh kp dn un n ow' ds us :=
  ⟨f h _ B.o1 B.hh, B.hd.fr f B.o3 (f.tx k.notup), B.hu.fr f B.o4 (f.tx k.notup), B.d1, B.d2, B.d3, notin_nw nw B.o1 (by rw [B.hh]; exact fun z => nomatch z), notin_nw nw B.o2 hsh, notin_nw nw B.o3 (ls_some B.hd), notin_nw nw B.o4 (ls_some B.hu)⟩
section
variable {P : Program} {w : World} {K : PySem.W.Frag} {mg : Str → Option Value} {base : Heap} {C CH : Addr}
def spC1 (C CH : Addr) : Sp := fun vs H Q _ => ∃ (h dxh sh kp dn un : Addr) (n : Int) (ow : List Addr) (ds us : List (Fe × Fe)) (l : List Itm) (cs bs : List (List Int)) (fl : List (Nat × Nat)) (e : Ed) (v : V), vs = [V.ref h, v] ∧ Im H v (eE e) ∧ HA C CH H h dxh sh kp dn un n ow ds us l cs bs fl ∧ Can l e ∧
  ∀ (r : Int) H' sh' ow' cs' bs' fl', HA C CH H' h dxh sh' kp dn un n ow' ds us (app l e) cs' bs' fl' → Fr (h :: ow) H H' → Nw ow ow' H → H sh' = none → Q (.int r) H'
theorem sc_5510 : FnScope ["self", "edit", "order", "goal", "made"] ["self", "edit"] (defScope (inClass (top 55) 10)) := ⟨rfl, rfl, rfl, by decide +kernel, rfl, by decide +kernel, by decide +kernel⟩
theorem ok_Hc1 (M : Mg mg) (F : KF K C) (G : HFc K CH) (S : StandsM K CH "_carry_single" "History._carry_single" 55 10) (DE : Df0 P w K mg base "edited" 7 (spN rEdd)) (DO : Df0 P w K mg base "order_of" 4 (spN rOrd))
    (DP : Mt P w K mg base C "put" 4 (spPut C)) (DKo : Mt P w K mg base C "order" 1 (spN (rKOrd C))) (DM : Mt P w K mg base CH "_move" 5 (spMove C CH)) (DD : Mt P w K mg base C "drop" 4 (spDrop C)) : Mt P w K mg base CH "_carry_single" 8 (spC1 C CH) := by
  refine mk_meth S sc_5510 (fun vs H Q E h => by obtain ⟨_, _, _, _, _, _, _, _, _, _, _, _, _, _, _, _, rfl, _⟩ := h; rfl) (fun _ _ _ _ _ _ us hl => match us, hl with | [_, _], _ => rfl) fun f cdv A outer s H vs Q E hr hsp => ?_
  obtain ⟨h, dxh, sh, kp, dn, un, n, ow, ds, us, l, cs, bs, fl, e, ve, rfl, ime, HAh, hc, q'⟩ := hsp
  have hu : (A.deeper (envOfC "History._carry_single" (defScope (inClass (top 55) 10)) s.heap.objs.size f cdv)).units + 65 < cLine := by have := hr.un; omega
  have hv : L2.start ["self", "edit", "order", "goal", "made"] [V.ref h, ve] = [some (.ref h), some ve, none, none, none] := rfl
  rw [hv]
  have VSl := HAh.vs
  have hst := HAh.st
  have hlen := VSl.len
  have VSa := VSl.app hc
  -- slots: the edit; the shape by the field
  have S0 : Sl H [some (.ref h), some ve, none, none, none] [some (.f CH "_shape" (.l (l.map eTI))), some (.d (eE e)), none, none, none] := ⟨rfl, fun i r z => by
    match i with
    | 0 => cases z; exact ⟨_, rfl, h, dxh, _, V.ref sh, rfl, HAh.hb.hh, rfl, sh, rfl, HAh.hs⟩
    | 1 => cases z; exact ⟨_, rfl, ime⟩
    | 2 => cases z
    | 3 => cases z
    | 4 => cases z
    | i + 5 => cases z⟩
  have hcans : Cans (gr l) (Fe.one e).sgl := ⟨by rw [hst]; exact hc, True.intro⟩
  have hfin : fin (gr l) (Fe.one e).sgl = app l e := by rw [hst]; rfl
  -- self._shape = edited(self._shape, edit)
  refine wss_cons (ws_fld (we_puN S0 (pun_call DE.df hr (pua_cons (pu_fld G.cls G.n1 (pu_var 0)) (pua_cons ((pu_var 1).to (r' := .d (eF (.one e))) rfl) pua_nil)) ⟨l, .one e, rfl, VSl, by simp [Fe.sgl], hcans, rfl⟩) fun sh' H1 n1 s1 l1 => we_name 0 rfl ⟨h, CH, dxh, _, rfl, s1 _ _ HAh.hb.hh, G.cls, G.n1, by simp [hf], ?_⟩))
  rw [hfin] at l1
  have e1 : putF "_shape" (V.ref sh') (hf sh kp dn un n) = hf sh' kp dn un n := rfl
  rw [e1]
  have B1 := HAh.hb.mono s1
  have K1 := HAh.ks.mono s1
  have t2 : Tx H1 (upd H1 h (.ins CH dxh (hf sh' kp dn un n))) := .mut B1.hh fun _ z => nomatch z
  have off : ∀ {x : Addr} {dd : List PyData}, Ls H1 x dd → Ls (upd H1 h (.ins CH dxh (hf sh' kp dn un n))) x dd := fun ⟨us, g1, g2⟩ => ⟨us, by rw [upd_ne (ne_of g1 B1.hh fun z => nomatch z)]; exact g1, g2.mono t2⟩
  have f2 : Fr (h :: ow) H (upd H1 h (.ins CH dxh (hf sh' kp dn un n))) := (Fr.of s1).trans (.upd (by simp))
  have K2 : KS C (upd H1 h (.ins CH dxh (hf sh' kp dn un n))) kp ow (ordOf l) cs bs fl := by
    obtain ⟨dx, a, b, c, d, rfl, KA1, O, V1, R⟩ := K1
    have hnk : kp ≠ h := fun z => B1.o1 (by rw [← z]; simp)
    exact ⟨dx, a, b, c, d, rfl, ⟨KA1.ab, KA1.ac, KA1.bc, by rw [upd_ne hnk]; exact KA1.ho, off KA1.ha, off KA1.hb, off KA1.hc, by rw [upd_ne (ne_of KA1.hd B1.hh fun z => nomatch z)]; exact KA1.hd⟩, O, V1, R⟩
  have nsh : H sh' = none := n1
  have nd : ∀ {x : Addr} {dd : List PyData}, Ls H x dd → sh' ≠ x := fun lx z => by subst z; exact ls_not_none lx n1
  have nso : sh' ∉ ow := fun m => HAh.ks.live sh' m n1
  have B2 : HB CH (upd H1 h (.ins CH dxh (hf sh' kp dn un n))) h dxh sh' kp dn un n ow ds us := ⟨upd_same, off B1.hd, off B1.hu, nd HAh.hb.hd, nd HAh.hb.hu, B1.d3, B1.o1, nso, B1.o3, B1.o4⟩
  have l2 := off l1
  have im2 : Im (upd H1 h (.ins CH dxh (hf sh' kp dn un n))) ve (eE e) := (ime.mono (.of s1)).mono t2
  generalize upd H1 h (.ins CH dxh (hf sh' kp dn un n)) = H2 at f2 K2 B2 l2 im2
  -- slots behind
  have SH : ∀ (H' : Hp) (σ : L2.St) (ow' : List Addr), σ.length = 5 → σ[0]? = some (some (V.ref h)) → σ[1]? = some (some ve) → HB CH H' h dxh sh' kp dn un n ow' ds us → Ls H' sh' ((app l e).map eTI) → Im H' ve (eE e) → Sl H' σ [some (.f CH "_shape" (.l ((app l e).map eTI))), some (.d (eE e)), none, none, none] := fun H' σ ow' hl h0 h1 B' ls' im' => ⟨hl.symm, fun i r z => by
    match i with
    | 0 => cases z; exact ⟨_, h0, h, dxh, _, V.ref sh', rfl, B'.hh, rfl, sh', rfl, ls'⟩
    | 1 => cases z; exact ⟨_, h1, im'⟩
    | 2 => cases z
    | 3 => cases z
    | 4 => cases z
    | i + 5 => cases z⟩
  -- order, goal, made, the last if: from any Kept of an order os1 that moves to os2
  have rest : ∀ (H3 : Hp) (ow3 : List Addr) (cs3 bs3 : List (List Int)) (fl3 : List (Nat × Nat)) (os1 os2 : List Sim) (i g : Nat), HB CH H3 h dxh sh' kp dn un n ow3 ds us → KS C H3 kp ow3 os1 cs3 bs3 fl3 → Ls H3 sh' ((app l e).map eTI) → Im H3 ve (eE e) → Fr (h :: ow) H H3 → Nw ow ow3 H →
      e.sim ∈ os1 → i = os1.idxOf e.sim → os1.length ≤ 60 → 1 ≤ os1.length → Mv os1 i g os2 →
      (e.isT = true → g = os1.length - 1 ∧ os2 = ordOf (app l e) ++ [e.sim]) → (e.isT = false → g = (ordOf (app l e)).idxOf e.sim ∧ os2 = ordOf (app l e) ∧ e.sim ∈ ordOf (app l e)) →
      WSs (cxOf CX0 P w K mg base ["self", "edit", "order", "goal", "made"] "History._carry_single" (defScope (inClass (top 55) 10)) f cdv A outer s H E).nox ((defBody (inClass (top 55) 10)).drop 2) { nx := fun _ H' => Q .non H', rt := Q } [some (.ref h), some ve, none, none, none] H3 := by
    intro H3 ow3 cs3 bs3 fl3 os1 os2 i g B3 K3 l3 im3 f3 nw3 hm hi hz h1z hmv ht hnt
    obtain ⟨dx3, hk3⟩ : ∃ dx a b c d, H3 kp = some (.ins C dx (kf a b c d)) := K3.ins
    obtain ⟨a3, b3, c3, d3, hk3⟩ := hk3
    -- order = self._kept.order()
    refine wss_cons (ws_setW 2 sc_5510.nd (we_meth0 DKo F.cls (hr.mono (by decide)) (we_fld (we_name 0 rfl ⟨h, CH, dxh, _, V.ref kp, rfl, B3.hh, G.cls, G.n2, rfl, ⟨kp, dx3, _, rfl, hk3, rfl, fun E' => ⟨[sf C os1 cs3 bs3 fl3], _, .cons K3.sf .nil, ⟨os1, cs3, bs3, fl3, rfl, rfl⟩, fun p H4 n4 s4 l4 => ?_⟩⟩⟩))))
    show WSs _ _ _ [some (.ref h), some ve, some (.ref p), none, none] H4
    have S4 := (SH H4 [some (.ref h), some ve, some (.ref p), none, none] ow3 rfl rfl rfl (B3.mono s4) (l3.mono s4) (im3.mono (.of s4))).add 2 (r := .l (os1.map eS)) rfl ⟨p, rfl, l4⟩
    -- goal
    refine wss_cons (ws_set 3 sc_5510.nd S4 (r := .d (.int (g : Nat))) (pu_if (k := e.isT) (put_isT (pu_var 1)) (fun hT => (pu_sub (pu_lenL M (pu_var 2)) pu_int).to ?_) fun hT => (pu_indexS hu (pun_call DO.df (hr.mono (by decide)) (pua_cons (pu_fld G.cls G.n1 (pu_var 0)) pua_nil) ⟨app l e, rfl, by have := VSa.len; omega, rfl⟩).pu (pu_esim (pu_var 1)) ?_).to ?_) fun v5 H5 s5 a5 => ?_)
    · obtain ⟨e1, _⟩ := ht hT
      rw [e1]; congr 2; simp; omega
    · rw [app_sorted]; exact (hnt hT).2.2
    · obtain ⟨e1, _, _⟩ := hnt hT
      rw [app_sorted, e1]; rfl
    cases a5
    show WSs _ _ _ [some (.ref h), some ve, some (.ref p), some (.int (g : Nat)), none] H5
    have B5 := (B3.mono s4).mono s5
    have l5 := (l3.mono s4).mono s5
    have im5 := (im3.mono (.of s4)).mono (.of s5)
    have K5 := (K3.mono s4).mono s5
    have f5 : Fr (h :: ow) H H5 := f3.trans (.of (s4.trans s5))
    have S5 := ((SH H5 [some (.ref h), some ve, some (.ref p), some (.int (g : Nat)), none] ow3 rfl rfl rfl B5 l5 im5).add 2 (r := .l (os1.map eS)) rfl ⟨p, rfl, l4.mono s5⟩).add 3 (r := .d (.int (g : Nat))) rfl (.int _)
    obtain ⟨hi1, hg1⟩ := mv_lt hmv hz
    -- made = self._move(order.index(edit[1]), goal)
    refine wss_cons (ws_setW 4 sc_5510.nd (we_meth DM G.cls (hr.mono (by decide)) (we_name 0 rfl ⟨h, dxh, _, rfl, B5.hh, rfl, wa_cons (we_pu S5 (r := .d (.int (i : Nat))) ((pu_indexS hu (pu_var 2) (pu_esim (pu_var 1)) hm).to (by rw [hi]; rfl)) fun v6 H6 s6 a6 => wa_cons (we_pu (S5.mono s6) (pu_var 3) fun v7 H7 s7 a7 => wa_nil fun E' => ?_))⟩)))
    cases a6; cases a7
    have B7 := B5.mono (s6.trans s7)
    have K7 := K5.mono (s6.trans s7)
    have l7 := l5.mono (s6.trans s7)
    have im7 := im5.mono (.of (s6.trans s7))
    have f7 : Fr (h :: ow) H H7 := f5.trans (.of (s6.trans s7))
    refine ⟨h, dxh, kp, _, ow3, os1, os2, cs3, bs3, fl3, i, g, rfl, B7.hh, rfl, B7.o1, K7, hmv, hi1, hg1, fun r H8 ow8 cs8 bs8 fl8 K8 f8 n8 => ?_⟩
    show WSs _ _ _ [some (.ref h), some ve, some (.ref p), some (.int (g : Nat)), some (.int r)] H8
    have tx8 := f8.tx K7.notup
    have B8 := B7.kept K7 (ls_some l7) f8 n8
    have l8 := l7.fr f8 B7.o2 tx8
    have im8 := im7.mono tx8
    have nw8 : Nw ow ow8 H := nw3.trans' f7 n8 B5.o1 (by rw [B7.hh]; exact fun z => nomatch z)
    have f38 : Fr (h :: ow) H H8 := f7.to f8 fun x hx => by
      rcases nw3 x hx with z | z
      · exact .inl (by simp [z])
      · exact .inr z
    -- if edit[0] == 'take': self._kept.drop()
    have S8 := SH H8 [some (.ref h), some ve, some (.ref p), some (.int (g : Nat)), some (.int r)] ow8 rfl rfl rfl B8 l8 im8
    refine wss_cons (ws_if (b := e.isT) S8 (put_isT (pu_var 1)) (fun hT H9 s9 => ?_) fun hT H9 s9 => wss_nil ?_)
    · obtain ⟨_, e2⟩ := ht hT
      rw [e2] at K8
      have K9 := K8.mono s9
      have B9 := B8.mono s9
      obtain ⟨dx, a, b, c, d, e9, KA9, O9, V9, R9⟩ := id K9
      refine wss_one (ws_expr (we_meth0 DD F.cls (hr.mono (by decide)) (we_fld (we_name 0 rfl ⟨h, CH, dxh, _, V.ref kp, rfl, B9.hh, G.cls, G.n2, rfl, ⟨kp, dx, _, rfl, KA9.ho, rfl, fun E' => ⟨kp, dx, a, b, c, d, ordOf (app l e), _, _, _, e.sim, rfl, KA9, O9, V9, fun v H10 d' cs10 bs10 fl10 K10 V10 R10 f10 n10 => ?_⟩⟩⟩))))
      have f10' : Fr ow8 H9 H10 := by rw [e9]; exact f10
      have nw10 : Nw ow8 [kp, a, b, c, d'] H9 := fun x hx => by
        rw [e9]
        simp at hx
        rcases hx with z | z | z | z | z
        · exact .inl (by simp [z])
        · exact .inl (by simp [z])
        · exact .inl (by simp [z])
        · exact .inl (by simp [z])
        · exact .inr (by rw [z]; exact n10)
      have B10 := B9.kept K9 (ls_some (l8.mono s9)) f10' nw10
      have K10' : KS C H10 kp [kp, a, b, c, d'] (ordOf (app l e)) cs10 bs10 fl10 := ⟨dx, a, b, c, d', rfl, K10, OV_of VSa (app_sorted l e), V10, R10⟩
      refine wss_one (ws_retW (we_name 4 rfl (q' r H10 sh' [kp, a, b, c, d'] cs10 bs10 fl10 ⟨B10, (l8.mono s9).fr f10' B9.o2 (f10'.tx K9.notup), K10', VSa, app_sorted l e⟩ ?_ ?_ nsh)))
      · exact (f38.trans (.of s9)).to f10' fun x hx => by
          rcases nw8 x hx with z | z
          · exact .inl (by simp [z])
          · exact .inr z
      · exact nw8.trans' (f38.trans (.of s9)) nw10 B9.o1 (by rw [B9.hh]; exact fun z => nomatch z)
    · obtain ⟨_, e2, _⟩ := hnt hT
      rw [e2] at K8
      exact wss_one (ws_retW (we_name 4 rfl (q' r H9 sh' ow8 cs8 bs8 fl8 ⟨B8.mono s9, l8.mono s9, K8.mono s9, VSa, app_sorted l e⟩ (f38.trans (.of s9)) nw8 nsh)))
  -- if edit[0] == 'add': self._kept.put(edit[1])
  have S2 := SH H2 [some (.ref h), some ve, none, none, none] ow rfl rfl rfl B2 l2 im2
  have hol : (ordOf l).length ≤ 60 := by unfold ordOf; rw [List.length_map]; exact hlen
  refine wss_cons (ws_if (b := e.isA) S2 (put_isA (pu_var 1)) (fun hA H3 s3 => ?_) fun hA H3 s3 => wss_nil ?_)
  · cases e with
    | ht t z => cases hA
    | tk t => cases hA
    | ad t z =>
      have K3 := K2.mono s3
      have B3 := B2.mono s3
      obtain ⟨dx, a, b, c, d, e3, KA3, O3, V3, R3⟩ := id K3
      refine wss_one (ws_expr (we_meth DP F.cls (hr.mono (by decide)) (we_fld (we_name 0 rfl ⟨h, CH, dxh, _, V.ref kp, rfl, B3.hh, G.cls, G.n2, rfl, ⟨kp, dx, _, rfl, KA3.ho, rfl, wa_cons (we_pu (S2.mono s3) (r := .d (eS t)) (pu_esim (e := .ad t z) (pu_var 1)) fun v4 H4 s4 a4 => wa_nil fun E' => ⟨kp, dx, a, b, c, d, ordOf l, _, _, _, t, v4, rfl, a4, KA3.mono s4, ov_ad VSl hst hc, V3, fun H5 d' cs5 bs5 fl5 K5 V5 R5 f5 n5 => ?_⟩)⟩⟩))))
      have K4 := K3.mono s4
      have B4 := B3.mono s4
      have f5' : Fr ow H4 H5 := by rw [e3]; exact f5
      have nw5 : Nw ow [kp, a, b, c, d'] H4 := fun x hx => by
        rw [e3]
        simp at hx
        rcases hx with z | z | z | z | z
        · exact .inl (by simp [z])
        · exact .inl (by simp [z])
        · exact .inl (by simp [z])
        · exact .inl (by simp [z])
        · exact .inr (by rw [z]; exact n5)
      have tx5 := f5'.tx K4.notup
      have l4 := (l2.mono s3).mono s4
      have f4 : Fr (h :: ow) H H4 := f2.trans (.of (s3.trans s4))
      have K5' : KS C H5 kp [kp, a, b, c, d'] (ordOf l ++ [t]) cs5 bs5 fl5 := ⟨dx, a, b, c, d', rfl, K5, ov_ad VSl hst hc, V5, R5⟩
      refine rest H5 [kp, a, b, c, d'] cs5 bs5 fl5 (ordOf l ++ [t]) _ _ _ (B4.kept K4 (ls_some l4) f5' nw5) K5' (l4.fr f5' B4.o2 tx5) (((im2.mono (.of s3)).mono (.of s4)).mono tx5) ?_ ?_ (by simp [Ed.sim]) rfl (ov_ad VSl hst hc).len (by simp) (mv_ad VSl hst hc) (fun hT => nomatch hT) (fun _ => ⟨rfl, rfl, List.mem_map.mpr ⟨(t, z), app_mem.mpr (.inr (by simp [Ed.add])), rfl⟩⟩)
      · exact f4.to f5' fun x hx => .inl (by simp [hx])
      · exact (Nw.refl ow H).trans' f4 nw5 B4.o1 (by rw [B4.hh]; exact fun z => nomatch z)
  · cases e with
    | ad t z => cases hA
    | ht t z =>
      have hm : t ∈ ordOf l := hc.1
      exact rest H3 ow cs bs fl (ordOf l) _ _ _ (B2.mono s3) (K2.mono s3) (l2.mono s3) (im2.mono (.of s3)) (f2.trans (.of s3)) (.refl _ _) hm rfl hol (List.length_pos_of_mem hm) (mv_ht VSl hst hc) (fun hT => nomatch hT) (fun _ => ⟨rfl, rfl, List.mem_map.mpr ⟨(t, z), app_mem.mpr (.inr (by simp [Ed.add])), rfl⟩⟩)
    | tk t =>
      have hm : t ∈ ordOf l := hc.1
      exact rest H3 ow cs bs fl (ordOf l) _ _ _ (B2.mono s3) (K2.mono s3) (l2.mono s3) (im2.mono (.of s3)) (f2.trans (.of s3)) (.refl _ _) hm rfl hol (List.length_pos_of_mem hm) (mv_tk VSl hst hc) (fun _ => ⟨rfl, rfl⟩) (fun hT => nomatch hT)
end
end K47
/-! C11: _carry -/
namespace K47
open PySem PySem.Spec PyProof.Rows L2
section
variable {X : Cx} {σ : L2.St} {H : Hp} {D : Ends} {e o : Expr} {x f : Str} {pos pos' tpos : Pos}
theorem ws_augI (i : Nat) {a : Int} (hN : X.N.Nodup) (hv : σ[i]? = some (some (.int a))) (h : WE X e σ H fun v H1 => ∃ b : Int, v = .int b ∧ D.nx (σ.set i (some (.int (a + b)))) H1) (hi : X.N[i]? = some x := by rfl) (hx : Loc X.env.scope x := by first | exact Or.inl rfl | exact Or.inr rfl) (hf : X.fn x = true ∨ X.env.scope.names.lookup x = some .local := by first | exact .inl rfl | exact .inr rfl) :
    WS X (.AugAssign (.Name x pos') .Add e pos) D σ H := ws_of (ps_aug hN hi hx pe_we ip_add hf) ⟨.int a, hv, h.mono fun v H1 ⟨b, e1, q⟩ => ⟨a, b, rfl, e1, q⟩⟩
/-- o.f += e, ints -/
theorem ws_fldaugI (h : WE X o σ H fun u H1 => ∃ p C dx fs a, u = .ref p ∧ H1 p = some (.ins C dx fs) ∧ Cls X.K C ∧ NoAttr X.K C f ∧ fs.lookup f = some (.int a) ∧ WE X e σ H1 fun v H2 => ∃ (b : Int) (dx' : Addr) (fs' : List (Str × V)), v = .int b ∧ H2 p = some (.ins C dx' fs') ∧ fs'.length < 1000 ∧ D.nx σ (upd H2 p (.ins C dx' (putF f (.int (a + b)) fs')))) :
    WS X (.AugAssign (.Attribute o f tpos) .Add e pos) D σ H := ws_of (ps_fldaug pe_we pe_we in_add) (h.mono fun u H1 ⟨p, C, dx, fs, a, e1, e2, c, n, l, q⟩ => ⟨p, C, dx, fs, .int a, e1, e2, c, n, l, q.mono fun v H2 ⟨b, dx', fs', e3, e4, e5, q⟩ => ⟨a, b, rfl, e3, dx', fs', e4, e5, q⟩⟩)
end
/-- the shape's list is the old one, or of the own places, or new -/
def NS (sh sh' : Addr) (ow : List Addr) (H : Hp) : Prop := sh' = sh ∨ sh' ∈ ow ∨ H sh' = none
theorem NS.step {sh sh2 : Addr} {ow : List Addr} {H H1 : Hp} {h : Addr} (f : Fr (h :: ow) H H1) (n : H1 sh2 = none) (hne : H1 h ≠ none) : NS sh sh2 ow H := by
  by_cases m : sh2 ∈ ow
  · exact .inr (.inl m)
  · right; right
    cases e : H sh2 with
    | none => rfl
    | some u =>
      by_cases z : sh2 = h
      · subst z; exact absurd n hne
      · rw [f sh2 u (by simp [z, m]) e] at n; cases n
theorem Fr.own {ow ow' : List Addr} {H H1 H2 : Hp} {h : Addr} (f : Fr (h :: ow) H H1) (g : Fr (h :: ow') H1 H2) (n : Nw ow ow' H) : Fr (h :: ow) H H2 := f.to g fun x hx => by
  rcases List.mem_cons.mp hx with z | z
  · exact .inl (by simp [z])
  · rcases n x z with z2 | z2
    · exact .inl (by simp [z2])
    · exact .inr z2
theorem HA.hne {C CH : Addr} {H : Hp} {h dxh sh kp dn un : Addr} {n : Int} {ow : List Addr} {ds us : List (Fe × Fe)} {l : List Itm} {cs bs : List (List Int)} {fl : List (Nat × Nat)} (A : HA C CH H h dxh sh kp dn un n ow ds us l cs bs fl) : H h ≠ none := by rw [A.hb.hh]; exact fun z => nomatch z
theorem HA.notup {C CH : Addr} {H : Hp} {h dxh sh kp dn un : Addr} {n : Int} {ow : List Addr} {ds us : List (Fe × Fe)} {l : List Itm} {cs bs : List (List Int)} {fl : List (Nat × Nat)} (A : HA C CH H h dxh sh kp dn un n ow ds us l cs bs fl) : ∀ q ∈ h :: ow, ∀ xs, H q ≠ some (.tup xs) := fun q hq xs hx => by
  rcases List.mem_cons.mp hq with z1 | z1
  · rw [z1, A.hb.hh] at hx; cases hx
  · exact A.ks.notup q z1 xs hx
theorem Nw.same {ow ow' : List Addr} {H H1 : Hp} (n : Nw ow ow' H1) (s : Same H H1) : Nw ow ow' H := fun x hx => by
  rcases n x hx with z | z
  · exact .inl z
  · exact .inr (s.free z)
theorem NS.same {sh sh' : Addr} {ow : List Addr} {H H1 : Hp} (n : NS sh sh' ow H1) (s : Same H H1) : NS sh sh' ow H := by
  rcases n with z | z | z
  · exact .inl z
  · exact .inr (.inl z)
  · exact .inr (.inr (s.free z))
/-- the count changes -/
theorem HA.count {C CH : Addr} {H : Hp} {h dxh sh kp dn un : Addr} {n n' : Int} {ow : List Addr} {ds us : List (Fe × Fe)} {l : List Itm} {cs bs : List (List Int)} {fl : List (Nat × Nat)} (A : HA C CH H h dxh sh kp dn un n ow ds us l cs bs fl) : HA C CH (upd H h (.ins CH dxh (hf sh kp dn un n'))) h dxh sh kp dn un n' ow ds us l cs bs fl := by
  have t2 : Tx H (upd H h (.ins CH dxh (hf sh kp dn un n'))) := .mut A.hb.hh fun _ z => nomatch z
  have off : ∀ {x : Addr} {dd : List PyData}, Ls H x dd → Ls (upd H h (.ins CH dxh (hf sh kp dn un n'))) x dd := fun ⟨us, g1, g2⟩ => ⟨us, by rw [upd_ne (ne_of g1 A.hb.hh fun z => nomatch z)]; exact g1, g2.mono t2⟩
  have K2 : KS C (upd H h (.ins CH dxh (hf sh kp dn un n'))) kp ow (ordOf l) cs bs fl := by
    obtain ⟨dx, a, b, c, d, rfl, KA1, O, V1, R⟩ := A.ks
    have hnk : kp ≠ h := fun z => A.hb.o1 (by rw [← z]; simp)
    exact ⟨dx, a, b, c, d, rfl, ⟨KA1.ab, KA1.ac, KA1.bc, by rw [upd_ne hnk]; exact KA1.ho, off KA1.ha, off KA1.hb, off KA1.hc, by rw [upd_ne (ne_of KA1.hd A.hb.hh fun z => nomatch z)]; exact KA1.hd⟩, O, V1, R⟩
  exact ⟨⟨upd_same, off A.hb.hd, off A.hb.hu, A.hb.d1, A.hb.d2, A.hb.d3, A.hb.o1, A.hb.o2, A.hb.o3, A.hb.o4⟩, off A.hs, K2, A.vs, A.st⟩
theorem run_at2 (es : List Ed) (l : List Itm) (V : VS l) (hs : gr l = l) (c : Cans l es) : ∀ i, i ≤ es.length → ∃ x, (run l es)[i]? = some x ∧ VS x ∧ gr x = x := by
  induction es generalizing l with
  | nil =>
    intro i hi
    have : i = 0 := by simpa using hi
    subst this
    exact ⟨l, rfl, V, hs⟩
  | cons e es ih =>
    intro i hi
    cases i with
    | zero => exact ⟨l, rfl, V, hs⟩
    | succ i =>
      obtain ⟨x, h1, h2, h3⟩ := ih (app l e) (V.app c.1) (app_sorted l e) c.2 i (by simpa using hi)
      exact ⟨x, by simpa [run] using h1, h2, h3⟩
section
variable {P : Program} {w : World} {K : PySem.W.Frag} {mg : Str → Option Value} {base : Heap} {C CH : Addr}
def spCar (C CH : Addr) : Sp := fun vs H Q _ => ∃ (h dxh sh kp dn un : Addr) (n : Int) (ow : List Addr) (ds us : List (Fe × Fe)) (l : List Itm) (cs bs : List (List Int)) (fl : List (Nat × Nat)) (e : Fe) (v : V), vs = [V.ref h, v] ∧ Im H v (eF e) ∧ HA C CH H h dxh sh kp dn un n ow ds us l cs bs fl ∧ e.sgl.length ≤ 20 ∧ Cans l e.sgl ∧
  ∀ (r n' : Int) H' sh' ow' cs' bs' fl', HA C CH H' h dxh sh' kp dn un n' ow' ds us (fin l e.sgl) cs' bs' fl' → Fr (h :: ow) H H' → Nw ow ow' H → NS sh sh' ow H → Q (.int r) H'
theorem sc_559 : FnScope ["self", "edit", "made", "single"] ["self", "edit"] (defScope (inClass (top 55) 9)) := ⟨rfl, rfl, rfl, by decide +kernel, rfl, by decide +kernel, by decide +kernel⟩
theorem ok_Hcarry (M : Mg mg) (F : KF K C) (G : HFc K CH) (S : StandsM K CH "_carry" "History._carry" 55 9) (DS : Df0 P w K mg base "singles" 2 (spN rSgl)) (D1 : Mt P w K mg base CH "_carry_single" 8 (spC1 C CH)) : Mt P w K mg base CH "_carry" 9 (spCar C CH) := by
  refine mk_meth S sc_559 (fun vs H Q E h => by obtain ⟨_, _, _, _, _, _, _, _, _, _, _, _, _, _, _, _, rfl, _⟩ := h; rfl) (fun _ _ _ _ _ _ us hl => match us, hl with | [_, _], _ => rfl) fun f cdv A outer s H vs Q E hr hsp => ?_
  obtain ⟨h, dxh, sh, kp, dn, un, n, ow, ds, us, l, cs, bs, fl, e, ve, rfl, ime, HAh, hz, hc, q'⟩ := hsp
  have hv : L2.start ["self", "edit", "made", "single"] [V.ref h, ve] = [some (.ref h), some ve, none, none] := rfl
  rw [hv]
  have hst := HAh.st
  have SL : ∀ (H' : Hp) (x y : Option V), Im H' ve (eF e) → Sl H' [some (.ref h), some ve, x, y] [none, some (.d (eF e)), none, none] := fun H' x y im' => ⟨rfl, fun i r z => by
    match i with
    | 0 => cases z
    | 1 => cases z; exact ⟨_, rfl, im'⟩
    | 2 => cases z
    | 3 => cases z
    | i + 4 => cases z⟩
  refine wss_cons (ws_set 2 sc_559.nd (SL H none none ime) (pu_int (i := 0)) fun v1 H1 s1 a1 => ?_)
  cases a1
  show WSs _ _ _ [some (.ref h), some ve, some (.int 0), none] H1
  -- for single in singles(edit): made += self._carry_single(single)
  refine wss_cons (ws_for (ds := e.sgl.map eE) (g := gName 3) (srcS_new (SL H1 (some (.int 0)) none (ime.mono (.of s1))) (pun_call DS.df (hr.mono (by decide)) (pua_cons (pu_var 1) pua_nil) ⟨e, hz, rfl, rfl⟩)) (pg_name sc_559.nd rfl (Or.inl rfl)) fun pq H2 s2 hpq => ?_)
  have s02 := s1.trans s2
  have A2 := HAh.mono s02
  have im2 := ime.mono (.of s02)
  refine ⟨fun i σ' H' => ∃ (a : Int) (y : Option V) (sh' : Addr) (ow' : List Addr) (l' : List Itm) (cs' bs' : List (List Int)) (fl' : List (Nat × Nat)), σ' = [some (.ref h), some ve, some (.int a), y] ∧ (run l e.sgl)[i]? = some l' ∧ HA C CH H' h dxh sh' kp dn un n ow' ds us l' cs' bs' fl' ∧ Fr (h :: ow) H2 H' ∧ Nw ow ow' H2 ∧ NS sh sh' ow H2 ∧ Tx H2 H', ⟨0, none, sh, ow, l, cs, bs, fl, rfl, run_zero _ _, A2,   .of (Same.refl _), .refl _ _, .inl rfl, .refl _⟩, fun i σ' H' _ hP => ?_, fun i dd σ' H' x H3 hdd hP s3 im => ?_, fun σ' H' hP => ?_⟩
  · obtain ⟨a, y, sh', ow', l', cs', bs', fl', _, _, _, fr, _, _, tx⟩ := hP
    refine ⟨tx, fun z ez u hu => fr z u ?_ hu⟩
    obtain ⟨n1, _⟩ := hpq z ez
    have n0 : H z = none := s1.free n1
    intro m
    rcases List.mem_cons.mp m with z1 | z1
    · rw [z1, HAh.hb.hh] at n0; cases n0
    · exact HAh.ks.live z z1 n0
  · obtain ⟨a, y, sh', ow', l', cs', bs', fl', rfl, hl', A', fr, nw, ns, tx⟩ := hP
    have hi : i < e.sgl.length := by
      have := (List.getElem?_eq_some_iff.mp hdd).1
      simpa using this
    obtain ⟨ei, hei⟩ : ∃ ei, e.sgl[i]? = some ei := ⟨_, List.getElem?_eq_getElem hi⟩
    rw [List.getElem?_map, hei] at hdd
    cases hdd
    obtain ⟨xi, r1, r2, r3, r4⟩ := run_at e.sgl l HAh.vs hc i ei hei
    rw [hl'] at r1
    cases r1
    show WSs _ _ _ [some (.ref h), some ve, some (.int a), some x] H3
    have A3 := A'.mono s3
    refine wss_one (ws_augI 2 (a := a) sc_559.nd rfl (we_meth D1 G.cls hr (we_name 0 rfl ⟨h, dxh, _, rfl, A3.hb.hh, rfl, wa_cons (we_name 3 rfl (wa_nil fun E' => ?_))⟩)))
    refine ⟨h, dxh, sh', kp, dn, un, n, ow', ds, us, l', cs', bs', fl', ei, x, rfl, im, A3, r3, fun r H4 sh4 ow4 cs4 bs4 fl4 A4 f4 n4 ns4 => ⟨r, rfl, a + r, some x, sh4, ow4, _, cs4, bs4, fl4, rfl, r4, A4, ?_, ?_, ?_, ?_⟩⟩
    · exact (fr.trans (.of s3)).own f4 nw
    · exact nw.trans' (fr.trans (.of s3)) n4 A3.hb.o1 A3.hne
    · exact NS.step (fr.trans (.of s3)) ns4 A3.hne
    · exact (tx.trans (.of s3)).trans (f4.tx A3.notup)
  · obtain ⟨a, y, sh', ow', l', cs', bs', fl', rfl, hl', A', fr, nw, ns, tx⟩ := hP
    rw [List.length_map, run_last] at hl'
    cases hl'
    -- self._swaps += made; return made
    refine wss_cons (ws_fldaugI (we_name 0 rfl ⟨h, CH, dxh, _, n, rfl, A'.hb.hh, G.cls, G.n5, rfl, we_name 2 rfl ⟨a, dxh, _, rfl, A'.hb.hh, by simp [hf], ?_⟩⟩))
    have e1 : putF "_swaps" (V.int (n + a)) (hf sh' kp dn un n) = hf sh' kp dn un (n + a) := rfl
    rw [e1]
    refine wss_one (ws_retW (we_name 2 rfl (q' a (n + a) _ sh' ow' cs' bs' fl' A'.count ?_ (nw.same s02) (ns.same s02))))
    exact (Fr.of s02).trans (fr.trans (.upd (by simp)))
end
end K47
/-! C12: do, undo, redo -/
namespace K47
open PySem PySem.Spec PyProof.Rows L2
section
variable {C CH : Addr} {H : Hp} {h dxh sh kp dn un : Addr} {n : Int} {ow : List Addr} {ds us : List (Fe × Fe)} {l : List Itm} {cs bs : List (List Int)} {fl : List (Nat × Nat)}
theorem KS.off {os : List Sim} (k : KS C H kp ow os cs bs fl) {q : Addr} {o : HO} (hq : q ∉ ow) (t : Tx H (upd H q o)) : KS C (upd H q o) kp ow os cs bs fl := by
  obtain ⟨dx, a, b, c, d, rfl, A, O, V1, R⟩ := k
  simp at hq
  have off : ∀ {x : Addr} {dd : List PyData}, x ≠ q → Ls H x dd → Ls (upd H q o) x dd := fun hn ⟨us, g1, g2⟩ => ⟨us, by rw [upd_ne hn]; exact g1, g2.mono t⟩
  exact ⟨dx, a, b, c, d, rfl, ⟨A.ab, A.ac, A.bc, by rw [upd_ne (fun z => hq.1 z.symm)]; exact A.ho, off (fun z => hq.2.1 z.symm) A.ha, off (fun z => hq.2.2.1 z.symm) A.hb, off (fun z => hq.2.2.2.1 z.symm) A.hc, by rw [upd_ne (fun z => hq.2.2.2.2 z.symm)]; exact A.hd⟩, O, V1, R⟩
theorem HA.setDn (A : HA C CH H h dxh sh kp dn un n ow ds us l cs bs fl) {vs : List V} {ds' : List (Fe × Fe)} (a : ImAll H vs (ds'.map eSt)) : HA C CH (upd H dn (.lst vs)) h dxh sh kp dn un n ow ds' us l cs bs fl := by
  obtain ⟨ws, g1, _⟩ := A.hb.hd
  have t : Tx H (upd H dn (.lst vs)) := .mut g1 fun _ z => nomatch z
  exact ⟨⟨by rw [upd_ne (lst_ne A.hb.hd A.hb.hh fun _ z => nomatch z)]; exact A.hb.hh, ⟨vs, upd_same, a.mono t⟩, A.hb.hu.off A.hb.hd A.hb.d3.symm, A.hb.d1, A.hb.d2, A.hb.d3, A.hb.o1, A.hb.o2, A.hb.o3, A.hb.o4⟩, A.hs.off A.hb.hd A.hb.d1, A.ks.off A.hb.o3 t, A.vs, A.st⟩
theorem HA.setUn (A : HA C CH H h dxh sh kp dn un n ow ds us l cs bs fl) {vs : List V} {us' : List (Fe × Fe)} (a : ImAll H vs (us'.map eSt)) : HA C CH (upd H un (.lst vs)) h dxh sh kp dn un n ow ds us' l cs bs fl := by
  obtain ⟨ws, g1, _⟩ := A.hb.hu
  have t : Tx H (upd H un (.lst vs)) := .mut g1 fun _ z => nomatch z
  exact ⟨⟨by rw [upd_ne (lst_ne A.hb.hu A.hb.hh fun _ z => nomatch z)]; exact A.hb.hh, A.hb.hd.off A.hb.hu A.hb.d3, ⟨vs, upd_same, a.mono t⟩, A.hb.d1, A.hb.d2, A.hb.d3, A.hb.o1, A.hb.o2, A.hb.o3, A.hb.o4⟩, A.hs.off A.hb.hu A.hb.d2, A.ks.off A.hb.o4 t, A.vs, A.st⟩
/-- a new list of undone steps -/
theorem HA.newUn (A : HA C CH H h dxh sh kp dn un n ow ds us l cs bs fl) {un' : Addr} {us' : List (Fe × Fe)} (lu : Ls H un' (us'.map eSt)) (n1 : sh ≠ un') (n2 : dn ≠ un') (n3 : un' ∉ ow) : HA C CH (upd H h (.ins CH dxh (hf sh kp dn un' n))) h dxh sh kp dn un' n ow ds us' l cs bs fl := by
  have t : Tx H (upd H h (.ins CH dxh (hf sh kp dn un' n))) := .mut A.hb.hh fun _ z => nomatch z
  have off : ∀ {x : Addr} {dd : List PyData}, Ls H x dd → Ls (upd H h (.ins CH dxh (hf sh kp dn un' n))) x dd := fun ⟨us, g1, g2⟩ => ⟨us, by rw [upd_ne (ne_of g1 A.hb.hh fun z => nomatch z)]; exact g1, g2.mono t⟩
  exact ⟨⟨upd_same, off A.hb.hd, off lu, A.hb.d1, n1, n2, A.hb.o1, A.hb.o2, A.hb.o3, n3⟩, off A.hs, A.ks.off A.hb.o1 t, A.vs, A.st⟩
end
section
variable {P : Program} {w : World} {K : PySem.W.Frag} {mg : Str → Option Value} {base : Heap} {C CH : Addr}
def spDo (C CH : Addr) : Sp := fun vs H Q _ => ∃ (h dxh sh kp dn un : Addr) (n : Int) (ow : List Addr) (ds us : List (Fe × Fe)) (l : List Itm) (cs bs : List (List Int)) (fl : List (Nat × Nat)) (e : Fe) (v : V), vs = [V.ref h, v] ∧ Im H v (eF e) ∧ HA C CH H h dxh sh kp dn un n ow ds us l cs bs fl ∧ e.sgl.length ≤ 20 ∧ Cans l e.sgl ∧ ds.length ≤ 1000 ∧
  ∀ (r : V) (n' : Int) H' sh' un' ow' cs' bs' fl', HA C CH H' h dxh sh' kp dn un' n' ow' (ds ++ [(e, e.inv l)]) [] (fin l e.sgl) cs' bs' fl' → Fr (h :: dn :: un :: ow) H H' → Nw ow ow' H → NS sh sh' ow H → (un' ∈ ow ∨ H un' = none) → Q r H'
theorem sc_555 : FnScope ["self", "edit", "step", "made"] ["self", "edit"] (defScope (inClass (top 55) 5)) := ⟨rfl, rfl, rfl, by decide +kernel, rfl, by decide +kernel, by decide +kernel⟩
theorem Fr.sub {ow ow' : List Addr} {H H' : Hp} (f : Fr ow H H') (h : ∀ x ∈ ow, x ∈ ow') : Fr ow' H H' := fun x u n e => f x u (fun m => n (h x m)) e
theorem ok_Hdo (M : Mg mg) (F : KF K C) (G : HFc K CH) (S : StandsM K CH "do" "History.do" 55 5) (DI : Df0 P w K mg base "inverse" 7 (spU rInv)) (DC : Mt P w K mg base CH "_carry" 9 (spCar C CH)) : Mt P w K mg base CH "do" 10 (spDo C CH) := by
  refine mk_meth S sc_555 (fun vs H Q E h => by obtain ⟨_, _, _, _, _, _, _, _, _, _, _, _, _, _, _, _, rfl, _⟩ := h; rfl) (fun _ _ _ _ _ _ us hl => match us, hl with | [_, _], _ => rfl) fun f cdv A outer s H vs Q E hr hsp => ?_
  obtain ⟨h, dxh, sh, kp, dn, un, n, ow, ds, us, l, cs, bs, fl, e, ve, rfl, ime, HAh, hz, hc, hdz, q'⟩ := hsp
  have hv : L2.start ["self", "edit", "step", "made"] [V.ref h, ve] = [some (.ref h), some ve, none, none] := rfl
  rw [hv]
  have hst := HAh.st
  have S0 : Sl H [some (.ref h), some ve, none, none] [some (.f CH "_shape" (.l (l.map eTI))), some (.d (eF e)), none, none] := ⟨rfl, fun i r z => by
    match i with
    | 0 => cases z; exact ⟨_, rfl, h, dxh, _, V.ref sh, rfl, HAh.hb.hh, rfl, sh, rfl, HAh.hs⟩
    | 1 => cases z; exact ⟨_, rfl, ime⟩
    | 2 => cases z
    | 3 => cases z
    | i + 4 => cases z⟩
  -- step = (edit, inverse(self._shape, edit))
  refine wss_cons (ws_set 2 sc_555.nd S0 (r := .d (eSt (e, e.inv l))) ((pu_tup (ds := [eF e, eF (e.inv (gr l))]) (pua_cons (pu_var 1) (pua_cons (pu_call DI.df (hr.mono (by decide)) (pua_cons (pu_fld G.cls G.n1 (pu_var 0)) (pua_cons (pu_var 1) pua_nil)) ⟨l, e, HAh.vs, hz, by rw [hst]; exact hc, rfl, rfl⟩) pua_nil)) (by simp)).to (by rw [hst]; rfl)) fun vst H1 s1 a1 => ?_)
  show WSs _ _ _ [some (.ref h), some ve, some vst, none] H1
  have A1 := HAh.mono s1
  have im1 := ime.mono (.of s1)
  -- made = self._carry(edit)
  refine wss_cons (ws_setW 3 sc_555.nd (we_meth DC G.cls hr (we_name 0 rfl ⟨h, dxh, _, rfl, A1.hb.hh, rfl, wa_cons (we_name 1 rfl (wa_nil fun E' => ⟨h, dxh, sh, kp, dn, un, n, ow, ds, us, l, cs, bs, fl, e, ve, rfl, im1, A1, hz, hc, fun r n' H2 sh' ow' cs' bs' fl' A2 f2 nw ns => ?_⟩))⟩)))
  show WSs _ _ _ [some (.ref h), some ve, some vst, some (.int r)] H2
  have im2 : Im H2 vst (eSt (e, e.inv l)) := Im.mono (f2.tx A1.notup) a1
  -- self._done.append(step)
  refine wss_cons (we_append (we_fld (we_name 0 rfl ⟨h, CH, dxh, _, V.ref dn, rfl, A2.hb.hh, G.cls, G.n3, rfl, ?_⟩)))
  obtain ⟨ud, hud, ald⟩ := A2.hb.hd
  refine ⟨dn, rfl, ⟨ud, hud⟩, we_name 2 rfl ⟨ud, hud, ?_, ?_⟩⟩
  · rw [ald.length, List.length_map]; exact Nat.lt_of_le_of_lt hdz (by decide)
  have A3 := A2.setDn (vs := ud ++ [vst]) (ds' := ds ++ [(e, e.inv l)]) (by rw [List.map_append]; exact ald.append (.cons im2 .nil))
  have f3 : Fr (h :: dn :: un :: ow) H (upd H2 dn (.lst (ud ++ [vst]))) := (Fr.of s1).trans ((f2.sub (fun x hx => by
    rcases List.mem_cons.mp hx with z | z
    · simp [z]
    · simp [z])).trans (.upd (by simp)))
  have nw3 : Nw ow ow' H := nw.same s1
  have ns3 : NS sh sh' ow H := ns.same s1
  generalize upd H2 dn (.lst (ud ++ [vst])) = H3 at A3 f3
  -- self._undone = []
  refine wss_cons (ws_fld (we_lst (wa_nil ⟨by decide, fun un' hun => we_name 0 rfl ⟨h, CH, dxh, _, rfl, same_new hun _ _ A3.hb.hh, G.cls, G.n4, by simp [hf], ?_⟩⟩)))
  have A4 := A3.mono (same_new hun (o := .lst []))
  have e1 : putF "_undone" (V.ref un') (hf sh' kp dn un n') = hf sh' kp dn un' n' := rfl
  rw [e1]
  have A5 := A4.newUn (un' := un') (us' := []) ⟨[], upd_same, .nil⟩ (fun z => by subst z; exact ls_not_none A3.hs hun) (fun z => by subst z; exact ls_not_none A3.hb.hd hun) (fun m => A3.ks.live un' m hun)
  refine wss_one (ws_retW (we_name 3 rfl (q' _ n' _ sh' un' ow' cs' bs' fl' A5 (f3.trans ((Fr.of (same_new hun)).trans (.upd (by simp)))) nw3 ns3 ?_)))
  by_cases m : un' ∈ ow
  · exact .inl m
  · right
    cases q : H un' with
    | none => rfl
    | some u =>
      exfalso
      by_cases z1 : un' = h
      · subst z1; rw [A3.hb.hh] at hun; cases hun
      · by_cases z2 : un' = dn
        · subst z2; exact ls_not_none A3.hb.hd hun
        · by_cases z3 : un' = un
          · subst z3; exact ls_not_none A3.hb.hu hun
          · have := f3 un' u (by simp [z1, z2, z3, m]) q
            rw [hun] at this; cases this
/-! ### undo, redo -/
def spUndo (C CH : Addr) : Sp := fun vs H Q _ => ∃ (h dxh sh kp dn un : Addr) (n : Int) (ow : List Addr) (ds us : List (Fe × Fe)) (l : List Itm) (cs bs : List (List Int)) (fl : List (Nat × Nat)) (e r : Fe), vs = [V.ref h] ∧ HA C CH H h dxh sh kp dn un n ow (ds ++ [(e, r)]) us l cs bs fl ∧ r.sgl.length ≤ 20 ∧ Cans l r.sgl ∧ us.length ≤ 1000 ∧
  ∀ (v : V) (n' : Int) H' sh' ow' cs' bs' fl', HA C CH H' h dxh sh' kp dn un n' ow' ds (us ++ [(e, r)]) (fin l r.sgl) cs' bs' fl' → Fr (h :: dn :: un :: ow) H H' → Nw ow ow' H → NS sh sh' ow H → Q v H'
theorem sc_556 : FnScope ["self", "step"] ["self"] (defScope (inClass (top 55) 6)) := ⟨rfl, rfl, rfl, by decide +kernel, rfl, by decide +kernel, by decide +kernel⟩
theorem last_at {us : List V} {u : V} : (us ++ [u])[(us ++ [u]).length - 1]? = some u := by simp
/-- own places kept through changes of h, dn, un -/
theorem Nw.own3 {ow ow' : List Addr} {H H1 : Hp} {h dn un : Addr} (f : Fr (h :: dn :: un :: ow) H H1) (n : Nw ow ow' H1) (h1 : H1 h ≠ none) (h2 : H1 dn ≠ none) (h3 : H1 un ≠ none) : Nw ow ow' H := fun x hx => by
  rcases n x hx with z | z
  · exact .inl z
  · by_cases m : x ∈ ow
    · exact .inl m
    · right
      cases q : H x with
      | none => rfl
      | some u =>
        exfalso
        by_cases z1 : x = h
        · subst z1; exact h1 z
        · by_cases z2 : x = dn
          · subst z2; exact h2 z
          · by_cases z3 : x = un
            · subst z3; exact h3 z
            · rw [f x u (by simp [z1, z2, z3, m]) q] at z; cases z
theorem NS.own3 {sh sh' : Addr} {ow : List Addr} {H H1 : Hp} {h dn un : Addr} (f : Fr (h :: dn :: un :: ow) H H1) (n : NS sh sh' ow H1) (h1 : H1 h ≠ none) (h2 : H1 dn ≠ none) (h3 : H1 un ≠ none) : NS sh sh' ow H := by
  rcases n with z | z | z
  · exact .inl z
  · exact .inr (.inl z)
  · rcases Nw.own3 (ow' := [sh']) f (fun x hx => .inr (by rw [List.mem_singleton.mp hx]; exact z)) h1 h2 h3 sh' (by simp) with y | y
    · exact .inr (.inl y)
    · exact .inr (.inr y)
theorem ok_Hundo (M : Mg mg) (F : KF K C) (G : HFc K CH) (S : StandsM K CH "undo" "History.undo" 55 6) (DC : Mt P w K mg base CH "_carry" 9 (spCar C CH)) : Mt P w K mg base CH "undo" 10 (spUndo C CH) := by
  refine mk_meth S sc_556 (fun vs H Q E h => by obtain ⟨_, _, _, _, _, _, _, _, _, _, _, _, _, _, _, _, rfl, _⟩ := h; rfl) (fun _ _ _ _ _ _ us hl => match us, hl with | [_], _ => rfl) fun f cdv A outer s H vs Q E hr hsp => ?_
  obtain ⟨h, dxh, sh, kp, dn, un, n, ow, ds, us, l, cs, bs, fl, e, r, rfl, HAh, hz, hc, huz, q'⟩ := hsp
  have hv : L2.start ["self", "step"] [V.ref h] = [some (.ref h), none] := rfl
  rw [hv]
  have S0 : Sl H [some (.ref h), none] [some (.f CH "_done" (.l ((ds ++ [(e, r)]).map eSt))), none] := ⟨rfl, fun i r z => by
    match i with
    | 0 => cases z; exact ⟨_, rfl, h, dxh, _, V.ref dn, rfl, HAh.hb.hh, rfl, dn, rfl, HAh.hb.hd⟩
    | 1 => cases z
    | i + 2 => cases z⟩
  refine wss_cons (ws_ifN S0 ((put_not (put_truL (pu_fld G.cls G.n3 (pu_var 0)))).to (by simp)) fun H1 s1 => ?_)
  have A1 := HAh.mono s1
  -- step = self._done.pop()
  refine wss_cons (ws_setW 1 sc_556.nd (we_pop (we_fld (we_name 0 rfl ⟨h, CH, dxh, _, V.ref dn, rfl, A1.hb.hh, G.cls, G.n3, rfl, ?_⟩))))
  obtain ⟨vd, hvd, ald⟩ := A1.hb.hd
  rw [List.map_append] at ald
  obtain ⟨ud, vst, rfl, ald1, im1⟩ := im_pop ald
  refine ⟨dn, _, vst, rfl, hvd, last_at, ?_⟩
  rw [List.dropLast_concat]
  show WSs _ _ _ [some (.ref h), some vst] (upd H1 dn (.lst ud))
  have A2 := A1.setDn (vs := ud) (ds' := ds) ald1
  have im2 : Im (upd H1 dn (.lst ud)) vst (eSt (e, r)) := im1.mono (.mut hvd fun _ z => nomatch z)
  have f2 : Fr (h :: dn :: un :: ow) H (upd H1 dn (.lst ud)) := (Fr.of s1).trans (.upd (by simp))
  generalize upd H1 dn (.lst ud) = H2 at A2 im2 f2
  -- self._undone.append(step)
  refine wss_cons (we_append (we_fld (we_name 0 rfl ⟨h, CH, dxh, _, V.ref un, rfl, A2.hb.hh, G.cls, G.n4, rfl, ?_⟩)))
  obtain ⟨uu, huu, alu⟩ := A2.hb.hu
  refine ⟨un, rfl, ⟨uu, huu⟩, we_name 1 rfl ⟨uu, huu, ?_, ?_⟩⟩
  · rw [alu.length, List.length_map]; exact Nat.lt_of_le_of_lt huz (by decide)
  have A3 := A2.setUn (vs := uu ++ [vst]) (us' := us ++ [(e, r)]) (by rw [List.map_append]; exact alu.append (.cons im2 .nil))
  have im3 : Im (upd H2 un (.lst (uu ++ [vst]))) vst (eSt (e, r)) := im2.mono (.mut huu fun _ z => nomatch z)
  have f3 : Fr (h :: dn :: un :: ow) H (upd H2 un (.lst (uu ++ [vst]))) := f2.trans (.upd (by simp))
  generalize upd H2 un (.lst (uu ++ [vst])) = H3 at A3 im3 f3
  -- return self._carry(step[1])
  have S3 : Sl H3 [some (.ref h), some vst] [none, some (.d (eSt (e, r)))] := ⟨rfl, fun i r z => by
    match i with
    | 0 => cases z
    | 1 => cases z; exact ⟨_, rfl, im3⟩
    | i + 2 => cases z⟩
  refine wss_one (ws_retW (we_meth DC G.cls hr (we_name 0 rfl ⟨h, dxh, _, rfl, A3.hb.hh, rfl, wa_cons (we_pu S3 (r := .d (eF r)) (pu_ixT (pu_var 1) pu_int (atI_nat' (n := 1) rfl rfl)) fun v4 H4 s4 a4 => wa_nil fun E' => ⟨h, dxh, sh, kp, dn, un, n, ow, ds, us ++ [(e, r)], l, cs, bs, fl, r, v4, rfl, a4, A3.mono s4, hz, hc, fun v n' H5 sh' ow' cs' bs' fl' A5 f5 nw ns => ?_⟩)⟩)))
  have A4 := A3.mono s4
  have f4 : Fr (h :: dn :: un :: ow) H H4 := f3.trans (.of s4)
  exact q' _ n' H5 sh' ow' cs' bs' fl' A5 (f4.trans (f5.sub fun x hx => by
    rcases List.mem_cons.mp hx with z | z
    · simp [z]
    · simp [z])) (Nw.own3 f4 nw A4.hne (ls_some A4.hb.hd) (ls_some A4.hb.hu)) (NS.own3 f4 ns A4.hne (ls_some A4.hb.hd) (ls_some A4.hb.hu))
def spRedo (C CH : Addr) : Sp := fun vs H Q _ => ∃ (h dxh sh kp dn un : Addr) (n : Int) (ow : List Addr) (ds us : List (Fe × Fe)) (l : List Itm) (cs bs : List (List Int)) (fl : List (Nat × Nat)) (e r : Fe), vs = [V.ref h] ∧ HA C CH H h dxh sh kp dn un n ow ds (us ++ [(e, r)]) l cs bs fl ∧ e.sgl.length ≤ 20 ∧ Cans l e.sgl ∧ ds.length ≤ 1000 ∧
  ∀ (v : V) (n' : Int) H' sh' ow' cs' bs' fl', HA C CH H' h dxh sh' kp dn un n' ow' (ds ++ [(e, r)]) us (fin l e.sgl) cs' bs' fl' → Fr (h :: dn :: un :: ow) H H' → Nw ow ow' H → NS sh sh' ow H → Q v H'
theorem sc_557 : FnScope ["self", "step"] ["self"] (defScope (inClass (top 55) 7)) := ⟨rfl, rfl, rfl, by decide +kernel, rfl, by decide +kernel, by decide +kernel⟩
theorem ok_Hredo (M : Mg mg) (F : KF K C) (G : HFc K CH) (S : StandsM K CH "redo" "History.redo" 55 7) (DC : Mt P w K mg base CH "_carry" 9 (spCar C CH)) : Mt P w K mg base CH "redo" 10 (spRedo C CH) := by
  refine mk_meth S sc_557 (fun vs H Q E h => by obtain ⟨_, _, _, _, _, _, _, _, _, _, _, _, _, _, _, _, rfl, _⟩ := h; rfl) (fun _ _ _ _ _ _ us hl => match us, hl with | [_], _ => rfl) fun f cdv A outer s H vs Q E hr hsp => ?_
  obtain ⟨h, dxh, sh, kp, dn, un, n, ow, ds, us, l, cs, bs, fl, e, r, rfl, HAh, hz, hc, huz, q'⟩ := hsp
  have hv : L2.start ["self", "step"] [V.ref h] = [some (.ref h), none] := rfl
  rw [hv]
  have S0 : Sl H [some (.ref h), none] [some (.f CH "_undone" (.l ((us ++ [(e, r)]).map eSt))), none] := ⟨rfl, fun i r z => by
    match i with
    | 0 => cases z; exact ⟨_, rfl, h, dxh, _, V.ref un, rfl, HAh.hb.hh, rfl, un, rfl, HAh.hb.hu⟩
    | 1 => cases z
    | i + 2 => cases z⟩
  refine wss_cons (ws_ifN S0 ((put_not (put_truL (pu_fld G.cls G.n4 (pu_var 0)))).to (by simp)) fun H1 s1 => ?_)
  have A1 := HAh.mono s1
  refine wss_cons (ws_setW 1 sc_557.nd (we_pop (we_fld (we_name 0 rfl ⟨h, CH, dxh, _, V.ref un, rfl, A1.hb.hh, G.cls, G.n4, rfl, ?_⟩))))
  obtain ⟨vd, hvd, ald⟩ := A1.hb.hu
  rw [List.map_append] at ald
  obtain ⟨ud, vst, rfl, ald1, im1⟩ := im_pop ald
  refine ⟨un, _, vst, rfl, hvd, last_at, ?_⟩
  rw [List.dropLast_concat]
  show WSs _ _ _ [some (.ref h), some vst] (upd H1 un (.lst ud))
  have A2 := A1.setUn (vs := ud) (us' := us) ald1
  have im2 : Im (upd H1 un (.lst ud)) vst (eSt (e, r)) := im1.mono (.mut hvd fun _ z => nomatch z)
  have f2 : Fr (h :: dn :: un :: ow) H (upd H1 un (.lst ud)) := (Fr.of s1).trans (.upd (by simp))
  generalize upd H1 un (.lst ud) = H2 at A2 im2 f2
  refine wss_cons (we_append (we_fld (we_name 0 rfl ⟨h, CH, dxh, _, V.ref dn, rfl, A2.hb.hh, G.cls, G.n3, rfl, ?_⟩)))
  obtain ⟨uu, huu, alu⟩ := A2.hb.hd
  refine ⟨dn, rfl, ⟨uu, huu⟩, we_name 1 rfl ⟨uu, huu, ?_, ?_⟩⟩
  · rw [alu.length, List.length_map]; exact Nat.lt_of_le_of_lt huz (by decide)
  have A3 := A2.setDn (vs := uu ++ [vst]) (ds' := ds ++ [(e, r)]) (by rw [List.map_append]; exact alu.append (.cons im2 .nil))
  have im3 : Im (upd H2 dn (.lst (uu ++ [vst]))) vst (eSt (e, r)) := im2.mono (.mut huu fun _ z => nomatch z)
  have f3 : Fr (h :: dn :: un :: ow) H (upd H2 dn (.lst (uu ++ [vst]))) := f2.trans (.upd (by simp))
  generalize upd H2 dn (.lst (uu ++ [vst])) = H3 at A3 im3 f3
  have S3 : Sl H3 [some (.ref h), some vst] [none, some (.d (eSt (e, r)))] := ⟨rfl, fun i r z => by
    match i with
    | 0 => cases z
    | 1 => cases z; exact ⟨_, rfl, im3⟩
    | i + 2 => cases z⟩
  refine wss_one (ws_retW (we_meth DC G.cls hr (we_name 0 rfl ⟨h, dxh, _, rfl, A3.hb.hh, rfl, wa_cons (we_pu S3 (r := .d (eF e)) (pu_ixT (pu_var 1) pu_int (atI_nat' (n := 0) rfl rfl)) fun v4 H4 s4 a4 => wa_nil fun E' => ⟨h, dxh, sh, kp, dn, un, n, ow, ds ++ [(e, r)], us, l, cs, bs, fl, e, v4, rfl, a4, A3.mono s4, hz, hc, fun v n' H5 sh' ow' cs' bs' fl' A5 f5 nw ns => ?_⟩)⟩)))
  have A4 := A3.mono s4
  have f4 : Fr (h :: dn :: un :: ow) H H4 := f3.trans (.of s4)
  exact q' _ n' H5 sh' ow' cs' bs' fl' A5 (f4.trans (f5.sub fun x hx => by
    rcases List.mem_cons.mp hx with z | z
    · simp [z]
    · simp [z])) (Nw.own3 f4 nw A4.hne (ls_some A4.hb.hd) (ls_some A4.hb.hu)) (NS.own3 f4 ns A4.hne (ls_some A4.hb.hd) (ls_some A4.hb.hu))
end
end K47
/-! C13: History: shape, pairs, chains, bars, __init__ -/
namespace K47
open PySem PySem.Spec PyProof.Rows L2
section
variable {P : Program} {w : World} {K : PySem.W.Frag} {mg : Str → Option Value} {base : Heap} {C CH : Addr}
/-- a look at a History: a new list -/
def spLook (C CH : Addr) (R : List Itm → List (List Int) → List (List Int) → List (Nat × Nat) → List PyData) : Sp := fun vs H Q _ => ∃ (h dxh sh kp dn un : Addr) (n : Int) (ow : List Addr) (ds us : List (Fe × Fe)) (l : List Itm) (cs bs : List (List Int)) (fl : List (Nat × Nat)), vs = [V.ref h] ∧ HA C CH H h dxh sh kp dn un n ow ds us l cs bs fl ∧
  ∀ p H', H p = none → Same H H' → Ls H' p (R l cs bs fl) → Q (.ref p) H'
theorem sc_551 : FnScope ["self"] ["self"] (defScope (inClass (top 55) 1)) := ⟨rfl, rfl, rfl, by decide +kernel, rfl, by decide +kernel, by decide +kernel⟩
theorem sc_552 : FnScope ["self"] ["self"] (defScope (inClass (top 55) 2)) := ⟨rfl, rfl, rfl, by decide +kernel, rfl, by decide +kernel, by decide +kernel⟩
theorem sc_553 : FnScope ["self"] ["self"] (defScope (inClass (top 55) 3)) := ⟨rfl, rfl, rfl, by decide +kernel, rfl, by decide +kernel, by decide +kernel⟩
theorem sc_554 : FnScope ["self"] ["self"] (defScope (inClass (top 55) 4)) := ⟨rfl, rfl, rfl, by decide +kernel, rfl, by decide +kernel, by decide +kernel⟩
theorem hslot {H : Hp} {h : Addr} {r : Rs} (a : At H (.ref h) r) : Sl H [some (V.ref h)] [some r] := ⟨rfl, fun i r z => by
  match i with
  | 0 => cases z; exact ⟨_, rfl, a⟩
  | i + 1 => cases z⟩
theorem ok_Hshape (M : Mg mg) (G : HFc K CH) (S : StandsM K CH "shape" "History.shape" 55 1) : Mt P w K mg base CH "shape" 1 (spLook C CH fun l _ _ _ => l.map eTI) := by
  refine mk_meth S sc_551 (fun vs H Q E h => by obtain ⟨_, _, _, _, _, _, _, _, _, _, _, _, _, _, rfl, _⟩ := h; rfl) (fun _ _ _ _ _ _ us hl => match us, hl with | [_], _ => rfl) fun f cdv A outer s H vs Q E hr hsp => ?_
  obtain ⟨h, dxh, sh, kp, dn, un, n, ow, ds, us, l, cs, bs, fl, rfl, HAh, q'⟩ := hsp
  exact wss_one (ws_retN (hslot (r := .f CH "_shape" (.l (l.map eTI))) ⟨h, dxh, _, V.ref sh, rfl, HAh.hb.hh, rfl, sh, rfl, HAh.hs⟩) (pun_listL M (pu_fld G.cls G.n1 (pu_var 0))) q')
theorem HA.klen (A : HA C CH H h dxh sh kp dn un n ow ds us l cs bs fl) : cs.length = l.length ∧ bs.length = l.length := by
  obtain ⟨dx, a, b, c, d, rfl, KA1, O, V1, R⟩ := A.ks
  have h1 := V1.lc
  have h2 := V1.lb
  unfold ordOf at h1 h2
  rw [List.length_map] at h1 h2
  exact ⟨h1, h2⟩
theorem ok_Hpairs (M : Mg mg) (F : KF K C) (G : HFc K CH) (S : StandsM K CH "pairs" "History.pairs" 55 2) (DP : Mt P w K mg base C "pairs" 1 (spN (rKPr C))) : Mt P w K mg base CH "pairs" 2 (spLook C CH fun _ _ bs fl => (pairsOf bs fl).map eP) := by
  refine mk_meth S sc_552 (fun vs H Q E h => by obtain ⟨_, _, _, _, _, _, _, _, _, _, _, _, _, _, rfl, _⟩ := h; rfl) (fun _ _ _ _ _ _ us hl => match us, hl with | [_], _ => rfl) fun f cdv A outer s H vs Q E hr hsp => ?_
  obtain ⟨h, dxh, sh, kp, dn, un, n, ow, ds, us, l, cs, bs, fl, rfl, HAh, q'⟩ := hsp
  obtain ⟨dx, a, b, c, d, hk⟩ := HAh.ks.ins
  have hbl := HAh.klen.2
  have := HAh.vs.len
  exact wss_one (ws_retW (we_meth0 DP F.cls hr (we_fld (we_name 0 rfl ⟨h, CH, dxh, _, V.ref kp, rfl, HAh.hb.hh, G.cls, G.n2, rfl, ⟨kp, dx, _, rfl, hk, rfl, fun E' => ⟨[sf C (ordOf l) cs bs fl], _, .cons HAh.ks.sf .nil, ⟨_, cs, bs, fl, rfl, by omega, rfl⟩, q'⟩⟩⟩))))
theorem ok_Hchains (M : Mg mg) (F : KF K C) (G : HFc K CH) (S : StandsM K CH "chains" "History.chains" 55 3) (DP : Mt P w K mg base C "chains" 1 (spN (rKCh C))) : Mt P w K mg base CH "chains" 2 (spLook C CH fun _ cs _ _ => cs.map eS) := by
  refine mk_meth S sc_553 (fun vs H Q E h => by obtain ⟨_, _, _, _, _, _, _, _, _, _, _, _, _, _, rfl, _⟩ := h; rfl) (fun _ _ _ _ _ _ us hl => match us, hl with | [_], _ => rfl) fun f cdv A outer s H vs Q E hr hsp => ?_
  obtain ⟨h, dxh, sh, kp, dn, un, n, ow, ds, us, l, cs, bs, fl, rfl, HAh, q'⟩ := hsp
  obtain ⟨dx, a, b, c, d, hk⟩ := HAh.ks.ins
  exact wss_one (ws_retW (we_meth0 DP F.cls hr (we_fld (we_name 0 rfl ⟨h, CH, dxh, _, V.ref kp, rfl, HAh.hb.hh, G.cls, G.n2, rfl, ⟨kp, dx, _, rfl, hk, rfl, fun E' => ⟨[sf C (ordOf l) cs bs fl], _, .cons HAh.ks.sf .nil, ⟨_, cs, bs, fl, rfl, rfl⟩, q'⟩⟩⟩))))
theorem ok_Hbars (M : Mg mg) (F : KF K C) (G : HFc K CH) (S : StandsM K CH "bars" "History.bars" 55 4) (DB : Df0 P w K mg base "bars_by" 4 (spN rBars)) (DP : Mt P w K mg base C "pairs" 1 (spN (rKPr C))) : Mt P w K mg base CH "bars" 5 (spLook C CH fun l _ bs fl => ((barsOf l (pairsOf bs fl)).mergeSort leB).map eB) := by
  refine mk_meth S sc_554 (fun vs H Q E h => by obtain ⟨_, _, _, _, _, _, _, _, _, _, _, _, _, _, rfl, _⟩ := h; rfl) (fun _ _ _ _ _ _ us hl => match us, hl with | [_], _ => rfl) fun f cdv A outer s H vs Q E hr hsp => ?_
  obtain ⟨h, dxh, sh, kp, dn, un, n, ow, ds, us, l, cs, bs, fl, rfl, HAh, q'⟩ := hsp
  obtain ⟨dx, a, b, c, d, hk⟩ := HAh.ks.ins
  have hbl := HAh.klen.2
  have := HAh.vs.len
  have hR : RP bs fl l.length := by
    obtain ⟨dx, a, b, c, d, rfl, KA1, O, V1, R⟩ := HAh.ks
    have : (ordOf l).length = l.length := by unfold ordOf; rw [List.length_map]
    rw [this] at R; exact R
  have hpl : (pairsOf bs fl).length ≤ 1000 := by
    unfold pairsOf
    rw [List.length_map]
    exact Nat.le_trans (births_len bs) (by omega)
  refine wss_one (ws_retW (we_call DB.df hr (wa_cons (we_fld (we_name 0 rfl ⟨h, CH, dxh, _, V.ref sh, rfl, HAh.hb.hh, G.cls, G.n1, rfl, wa_cons (we_meth0 DP F.cls (hr.mono (by decide)) (we_fld (we_name 0 rfl ⟨h, CH, dxh, _, V.ref kp, rfl, HAh.hb.hh, G.cls, G.n2, rfl, ⟨kp, dx, _, rfl, hk, rfl, fun E' => ⟨[sf C (ordOf l) cs bs fl], _, .cons HAh.ks.sf .nil, ⟨_, cs, bs, fl, rfl, by omega, rfl⟩, fun p H1 n1 s1 l1 => wa_nil fun E2 => ?_⟩⟩⟩)))⟩)))))
  exact ⟨[.l (l.map eTI), .l ((pairsOf bs fl).map eP)], _, .cons ⟨sh, rfl, HAh.hs.mono s1⟩ (.cons ⟨p, rfl, l1⟩ .nil), ⟨l, pairsOf bs fl, rfl, pairs_ok hR hbl, hpl, rfl⟩, fun p2 H2 n2 s2 l2 => q' p2 H2 (s1.free n2) (s1.trans s2) l2⟩
/-! ### History(shape) -/
def spHI (C CH : Addr) : Sp := fun vs H Q _ => ∃ (h dxh q : Addr) (l : List Itm), vs = [V.ref h, .ref q] ∧ H h = some (.ins CH dxh []) ∧ Ls H q (l.map eTI) ∧ VS l ∧
  ∀ H' sh kp dn un n ow cs bs fl, HA C CH H' h dxh sh kp dn un n ow [] [] (gr l) cs bs fl → Fr [h] H H' → H sh = none → H dn = none → H un = none → (∀ x ∈ ow, H x = none) → Q .non H'
theorem sc_550 : FnScope ["self", "shape"] ["self", "shape"] (defScope (inClass (top 55) 0)) := ⟨rfl, rfl, rfl, by decide +kernel, rfl, by decide +kernel, by decide +kernel⟩
theorem ok_Hinit (M : Mg mg) (F : KF K C) (G : HFc K CH) (S : StandsI K mg CH "History" "History.__init__" 55 0) (DK : Df0 P w K mg base "check_shape" 4 (spU fun as r => rCS as ∧ r = .d .none)) (DG : Df0 P w K mg base "grown" 3 (spN rGrown)) (DO : Df0 P w K mg base "order_of" 4 (spN rOrd)) (DM : MkI P w K mg base C "Kept" 5 (spInit C)) : MkI P w K mg base CH "History" 7 (spHI C CH) := by
  refine mk_init S sc_550 (fun vs H Q E h => by obtain ⟨_, _, _, _, rfl, _⟩ := h; rfl) (fun _ _ _ _ _ _ us hl => match us, hl with | [_, _], _ => rfl) fun f cdv A outer s H vs Q E hr hsp => ?_
  obtain ⟨h, dxh, q, l, rfl, hh, lq, VV, q'⟩ := hsp
  have hv : L2.start ["self", "shape"] [V.ref h, .ref q] = [some (.ref h), some (.ref q)] := rfl
  rw [hv]
  have hqh : q ≠ h := fun z => by subst z; obtain ⟨_, g, _⟩ := lq; rw [hh] at g; cases g
  have SL : ∀ (H' : Hp), Ls H' q (l.map eTI) → Sl H' [some (V.ref h), some (.ref q)] [none, some (.l (l.map eTI))] := fun H' l' => ⟨rfl, fun i r z => by
    match i with
    | 0 => cases z
    | 1 => cases z; exact ⟨_, rfl, q, rfl, l'⟩
    | i + 2 => cases z⟩
  have hlen := VV.len
  -- check_shape(shape)
  refine wss_cons (ws_exprP (SL H lq) (pu_call DK.df (hr.mono (by decide)) (pua_cons (pu_var 1) pua_nil) ⟨⟨l, VV, rfl⟩, rfl⟩) fun H1 s1 => ?_)
  -- self._shape = grown(shape)
  refine wss_cons (ws_fld (we_puN (SL H1 (lq.mono s1)) (pun_call DG.df (hr.mono (by decide)) (pua_cons (pu_var 1) pua_nil) ⟨l, rfl, rfl⟩) fun sh H2 n2 s2 l2 => we_name 0 rfl ⟨h, CH, dxh, _, rfl, (s1.trans s2) _ _ hh, G.cls, G.n1, by simp, ?_⟩))
  have hsh : sh ≠ h := fun z => by subst z; rw [s1 _ _ hh] at n2; cases n2
  have hh2 := (s1.trans s2) _ _ hh
  have t3 : Tx H2 (upd H2 h (.ins CH dxh (putF "_shape" (.ref sh) []))) := .mut hh2 fun _ z => nomatch z
  have f3 : Fr [h] H (upd H2 h (.ins CH dxh (putF "_shape" (.ref sh) []))) := (Fr.of (s1.trans s2)).trans (.upd (by simp))
  have off3 : ∀ {x : Addr} {dd : List PyData}, x ≠ h → Ls H2 x dd → Ls (upd H2 h (.ins CH dxh (putF "_shape" (.ref sh) []))) x dd := fun hn ⟨us, g1, g2⟩ => ⟨us, by rw [upd_ne hn]; exact g1, g2.mono t3⟩
  have l3 := off3 hsh l2
  have lq3 := off3 hqh (lq.mono (s1.trans s2))
  have hh3 : upd H2 h (.ins CH dxh (putF "_shape" (.ref sh) [])) h = some (.ins CH dxh [("_shape", .ref sh)]) := upd_same
  have nsh : H sh = none := s1.free n2
  generalize upd H2 h (.ins CH dxh (putF "_shape" (.ref sh) [])) = H3 at f3 l3 lq3 hh3
  -- self._kept = Kept(order_of(shape))
  refine wss_cons (ws_fld (we_make DM hr (wa_cons (we_puN (SL H3 lq3) (pun_call DO.df (hr.mono (by decide)) (pua_cons (pu_var 1) pua_nil) ⟨l, rfl, by omega, rfl⟩) fun po H4 n4 s4 l4 => wa_nil fun kp dxk nk ndk hne E' => ?_))))
  have hpo : po ≠ kp := fun z => by subst z; exact ls_not_none l4 nk
  have hpd : po ≠ dxk := fun z => by subst z; exact ls_not_none l4 ndk
  have hh4 := s4 _ _ hh3
  have hkh : kp ≠ h := fun z => by subst z; rw [hh4] at nk; cases nk
  have hdh : dxk ≠ h := fun z => by subst z; rw [hh4] at ndk; cases ndk
  have s5 : Same H4 (upd (upd H4 dxk (.own kp)) kp (.ins C dxk [])) := (same_new ndk).trans (same_new (by rw [upd_ne (fun z => hne z.symm)]; exact nk))
  refine ⟨kp, dxk, po, ordOf (gr l), rfl, upd_same, (show Ls H4 po ((ordOf (gr l)).map eS) from l4).mono s5, OV_of VV.gr (gr_gr l), fun H6 ow cs bs fl K6 f6 n6 => ⟨rfl, we_name 0 rfl ?_⟩⟩
  have live5 : ∀ {x : Addr} {u : HO}, H4 x = some u → upd (upd H4 dxk (.own kp)) kp (.ins C dxk []) x = some u := fun h => s5 _ _ h
  have f36 : ∀ (x : Addr) (u : HO), H3 x = some u → H6 x = some u := fun x u hx => f6 x u (by
    simp
    intro z
    subst z
    rw [s4 _ _ hx] at nk; cases nk) (live5 (s4 _ _ hx))
  have hh6 := f36 _ _ hh3
  refine ⟨h, CH, dxh, _, rfl, hh6, G.cls, G.n2, by simp, ?_⟩
  -- the Kept's own places are new
  have dom4 : ∀ x, H4 x = none → H x = none := fun x hx => by
    cases e : H x with
    | none => rfl
    | some u =>
      by_cases z : x = h
      · subst z; rw [hh4] at hx; cases hx
      · have := s4 _ _ (f3 x u (by simp; exact z) e)
        rw [hx] at this; cases this
  have hown : ∀ x ∈ ow, H x = none ∧ H4 x = none := fun x hx => by
    rcases n6 x hx with z | z
    · rw [List.mem_singleton.mp z]; exact ⟨dom4 kp nk, nk⟩
    · have h4 : H4 x = none := by
        cases e : H4 x with
        | none => rfl
        | some u => rw [live5 e] at z; cases z
      exact ⟨dom4 x h4, h4⟩
  have hho : h ∉ ow := fun m => by have := (hown h m).2; rw [hh4] at this; cases this
  have t7 : Tx H6 (upd H6 h (.ins CH dxh (putF "_kept" (.ref kp) [("_shape", .ref sh)]))) := .mut hh6 fun _ z => nomatch z
  have K7 := K6.off hho t7
  have tx6 : Tx H3 H6 := fun x xs hx => f36 x _ hx
  have l6 : Ls H6 sh ((gr l).map eTI) := by
    obtain ⟨us, g1, g2⟩ := l3
    exact ⟨us, f36 _ _ g1, g2.mono tx6⟩
  have l7 : Ls (upd H6 h (.ins CH dxh (putF "_kept" (.ref kp) [("_shape", .ref sh)]))) sh ((gr l).map eTI) := by
    obtain ⟨us, g1, g2⟩ := l6
    exact ⟨us, by rw [upd_ne hsh]; exact g1, g2.mono t7⟩
  have f7 : Fr [h] H (upd H6 h (.ins CH dxh (putF "_kept" (.ref kp) [("_shape", .ref sh)]))) := (f3.trans fun x u _ hx => f36 x u hx).trans (.upd (by simp))
  have hh7 : upd H6 h (.ins CH dxh (putF "_kept" (.ref kp) [("_shape", .ref sh)])) h = some (.ins CH dxh [("_shape", .ref sh), ("_kept", .ref kp)]) := upd_same
  have hso : sh ∉ ow := fun m => by
    have := (hown sh m).2
    exact ls_not_none (l3.mono s4) this
  generalize upd H6 h (.ins CH dxh (putF "_kept" (.ref kp) [("_shape", .ref sh)])) = H7 at K7 l7 f7 hh7
  have dom7 : ∀ x, H7 x = none → H x = none := fun x hx => by
    cases e : H x with
    | none => rfl
    | some u =>
      by_cases z : x = h
      · subst z; rw [hh7] at hx; cases hx
      · rw [f7 x u (by simp; exact z) e] at hx; cases hx
  -- self._done = []
  refine wss_cons (ws_fld (we_lst (wa_nil ⟨by decide, fun dn hdn => we_name 0 rfl ⟨h, CH, dxh, _, rfl, same_new hdn _ _ hh7, G.cls, G.n3, by simp, ?_⟩⟩)))
  have hdn1 : dn ≠ h := fun z => by subst z; rw [hh7] at hdn; cases hdn
  have hdn2 : sh ≠ dn := fun z => by subst z; exact ls_not_none l7 hdn
  have hdn3 : dn ∉ ow := fun m => K7.live dn m hdn
  have nd0 : H dn = none := dom7 dn hdn
  have hh8' := same_new hdn (o := .lst []) _ _ hh7
  have t8 : Tx (upd H7 dn (.lst [])) (upd (upd H7 dn (.lst [])) h (.ins CH dxh (putF "_done" (.ref dn) [("_shape", .ref sh), ("_kept", .ref kp)]))) := .mut hh8' fun _ z => nomatch z
  have K8 := (K7.mono (same_new hdn (o := .lst []))).off hho t8
  have l8 : Ls (upd (upd H7 dn (.lst [])) h (.ins CH dxh (putF "_done" (.ref dn) [("_shape", .ref sh), ("_kept", .ref kp)]))) sh ((gr l).map eTI) := by
    obtain ⟨us, g1, g2⟩ := l7.mono (same_new hdn (o := .lst []))
    exact ⟨us, by rw [upd_ne hsh]; exact g1, g2.mono t8⟩
  have ld8 : Ls (upd (upd H7 dn (.lst [])) h (.ins CH dxh (putF "_done" (.ref dn) [("_shape", .ref sh), ("_kept", .ref kp)]))) dn [] := ⟨[], by rw [upd_ne hdn1, upd_same], .nil⟩
  have hh8 : upd (upd H7 dn (.lst [])) h (.ins CH dxh (putF "_done" (.ref dn) [("_shape", .ref sh), ("_kept", .ref kp)])) h = some (.ins CH dxh [("_shape", .ref sh), ("_kept", .ref kp), ("_done", .ref dn)]) := upd_same
  have f8 : Fr [h] H (upd (upd H7 dn (.lst [])) h (.ins CH dxh (putF "_done" (.ref dn) [("_shape", .ref sh), ("_kept", .ref kp)]))) := f7.trans ((Fr.of (same_new hdn)).trans (.upd (by simp)))
  have dom8 : ∀ x, (upd (upd H7 dn (.lst [])) h (.ins CH dxh (putF "_done" (.ref dn) [("_shape", .ref sh), ("_kept", .ref kp)]))) x = none → H x = none := fun x hx => by
    cases e : H x with
    | none => rfl
    | some u =>
      by_cases z : x = h
      · subst z; rw [hh8] at hx; cases hx
      · rw [f8 x u (by simp; exact z) e] at hx; cases hx
  generalize upd (upd H7 dn (.lst [])) h (.ins CH dxh (putF "_done" (.ref dn) [("_shape", .ref sh), ("_kept", .ref kp)])) = H8 at K8 l8 ld8 hh8 f8 dom8
  -- self._undone = []
  refine wss_cons (ws_fld (we_lst (wa_nil ⟨by decide, fun un hun => we_name 0 rfl ⟨h, CH, dxh, _, rfl, same_new hun _ _ hh8, G.cls, G.n4, by simp, ?_⟩⟩)))
  have hun1 : un ≠ h := fun z => by subst z; rw [hh8] at hun; cases hun
  have hun2 : sh ≠ un := fun z => by subst z; exact ls_not_none l8 hun
  have hun3 : un ∉ ow := fun m => K8.live un m hun
  have hun4 : dn ≠ un := fun z => by subst z; exact ls_not_none ld8 hun
  have nu0 : H un = none := dom8 un hun
  have hh9' := same_new hun (o := .lst []) _ _ hh8
  have t9 : Tx (upd H8 un (.lst [])) (upd (upd H8 un (.lst [])) h (.ins CH dxh (putF "_undone" (.ref un) [("_shape", .ref sh), ("_kept", .ref kp), ("_done", .ref dn)]))) := .mut hh9' fun _ z => nomatch z
  have K9 := (K8.mono (same_new hun (o := .lst []))).off hho t9
  have l9 : Ls (upd (upd H8 un (.lst [])) h (.ins CH dxh (putF "_undone" (.ref un) [("_shape", .ref sh), ("_kept", .ref kp), ("_done", .ref dn)]))) sh ((gr l).map eTI) := by
    obtain ⟨us, g1, g2⟩ := l8.mono (same_new hun (o := .lst []))
    exact ⟨us, by rw [upd_ne hsh]; exact g1, g2.mono t9⟩
  have ld9 : Ls (upd (upd H8 un (.lst [])) h (.ins CH dxh (putF "_undone" (.ref un) [("_shape", .ref sh), ("_kept", .ref kp), ("_done", .ref dn)]))) dn [] := by
    obtain ⟨us, g1, g2⟩ := ld8.mono (same_new hun (o := .lst []))
    exact ⟨us, by rw [upd_ne hdn1]; exact g1, g2.mono t9⟩
  have lu9 : Ls (upd (upd H8 un (.lst [])) h (.ins CH dxh (putF "_undone" (.ref un) [("_shape", .ref sh), ("_kept", .ref kp), ("_done", .ref dn)]))) un [] := ⟨[], by rw [upd_ne hun1, upd_same], .nil⟩
  have hh9 : upd (upd H8 un (.lst [])) h (.ins CH dxh (putF "_undone" (.ref un) [("_shape", .ref sh), ("_kept", .ref kp), ("_done", .ref dn)])) h = some (.ins CH dxh [("_shape", .ref sh), ("_kept", .ref kp), ("_done", .ref dn), ("_undone", .ref un)]) := upd_same
  have f9 : Fr [h] H (upd (upd H8 un (.lst [])) h (.ins CH dxh (putF "_undone" (.ref un) [("_shape", .ref sh), ("_kept", .ref kp), ("_done", .ref dn)]))) := f8.trans ((Fr.of (same_new hun)).trans (.upd (by simp)))
  generalize upd (upd H8 un (.lst [])) h (.ins CH dxh (putF "_undone" (.ref un) [("_shape", .ref sh), ("_kept", .ref kp), ("_done", .ref dn)])) = H9 at K9 l9 ld9 lu9 hh9 f9
  -- self._swaps = 0
  refine wss_one (ws_fld (we_of pe_int (we_name 0 rfl ⟨h, CH, dxh, _, rfl, hh9, G.cls, G.n5, by simp, ?_⟩)))
  have t10 : Tx H9 (upd H9 h (.ins CH dxh (hf sh kp dn un 0))) := .mut hh9 fun _ z => nomatch z
  have off10 : ∀ {x : Addr} {dd : List PyData}, x ≠ h → Ls H9 x dd → Ls (upd H9 h (.ins CH dxh (hf sh kp dn un 0))) x dd := fun hn ⟨us, g1, g2⟩ => ⟨us, by rw [upd_ne hn]; exact g1, g2.mono t10⟩
  refine q' _ sh kp dn un 0 ow cs bs fl ⟨⟨upd_same, off10 hdn1 ld9, off10 hun1 lu9, hdn2, hun2, hun4, hho, hso, hdn3, hun3⟩, off10 hsh l9, K9.off hho t10, VV.gr, gr_gr l⟩ (f9.trans (.upd (by simp))) nsh nd0 nu0 fun x hx => (hown x hx).1
end
end K47
/-! P14: the law's pure defs: _law_faces, _law_sum, _law_grown, _law_cofaces -/
namespace K47
open PySem PySem.Spec PyProof.Rows L2
open PySem.W (EachIs AllAlike Sortable dataLe dataLt alike alikeAll keyToks keyToksAll)
/-- the law's faces: the program's, from behind -/
def lf (s : Sim) : List Sim := (fc s).reverse
section
variable {P : Program} {w : World} {K : PySem.W.Frag} {mg : Str → Option Value} {base : Heap}
def rLFac : List Rs → List PyData → Prop := fun as r => ∃ s, Sx s ∧ as = [.d (eS s)] ∧ r = (lf s).map eS
theorem sc_59 : FnScope ["_law_simplex", "_law_k"] ["_law_simplex"] (defScope (top 59)) := ⟨rfl, rfl, rfl, by decide +kernel, rfl, by decide +kernel, by decide +kernel⟩
theorem ok_lfaces (M : Mg mg) (S : Stands K mg "_law_faces" 59) : Df0 P w K mg base "_law_faces" 1 (spN rLFac) := by
  refine mk_pun S sc_59 (fun as r h => by obtain ⟨i, _, rfl, _⟩ := h; rfl) (fun _ _ _ _ _ _ us hl => match us, hl with | [_], _ => rfl) fun f cdv A outer s H E hr as r h => ?_
  obtain ⟨t, ht, rfl, rfl⟩ := h
  obtain ⟨l1, l2⟩ := ht.len
  refine gon_if (b := decide ((t.length : Int) = 1)) ((put_cmp op_eq rv_eqI (by rfl) (pu_lenT M (pu_var 0)) pu_int).to (by simp)) (fun h => ?_) (fun h => ?_)
  · have e : lf t = [] := by
      have h : (t.length : Int) = 1 := of_decide_eq_true h
      cases ht with
      | one a => rfl
      | two a b => simp at h
      | three a b c => simp at h
    rw [e]
    exact gon_ret (pun_lst pua_nil)
  · have h : ¬ (t.length : Int) = 1 := of_decide_eq_false h
    refine gon_ret (((lcd1a ["_law_simplex", "_law_k"] (defScope (top 59)) 1 (xs := List.range t.length) (enc := fun i => PyData.int (0 + (i : Nat))) (fun i => eS (t.take i ++ t.drop (i + 1)))
      ((src_rng1 M (pu_lenT M (pu_var 0)) (by simp; omega)).to (by unfold rngD; simp)) sc_59.nd (by simp; omega) (fun i hi _ _ _ _ _ => ?_))).pun.to ?_)
    · rw [List.mem_range] at hi
      refine (pu_catT (pu_slT (pu_var 0) puo_none (puo_some (pu_var 1))) (pu_slT (pu_var 0) (puo_some (pu_add (pu_var 1) pu_int)) puo_none) ?_).to ?_
      · rw [cutD_take (n := i) (by omega) (by simp; omega), cutD_drop (n := i + 1) (by omega) (by simp; omega)]
        simp; omega
      · rw [cutD_take (n := i) (by omega) (by simp; omega), cutD_drop (n := i + 1) (by omega) (by simp; omega)]
        simp [eS]
    · have e := fo_fc ht (by omega)
      unfold lf
      rw [← e]
      unfold fo
      rw [List.map_map]; rfl
def rLSum : List Rs → List PyData → Prop := fun as r => ∃ a b : List Int, as = [.l (a.map .int), .l (b.map .int)] ∧ a.length ≤ 10000 ∧ b.length ≤ 10000 ∧ r = (symd a b).map .int
theorem sc_61 : FnScope ["_law_first", "_law_second", "_law_one"] ["_law_first", "_law_second"] (defScope (top 61)) := ⟨rfl, rfl, rfl, by decide +kernel, rfl, by decide +kernel, by decide +kernel⟩
theorem ok_lsum (M : Mg mg) (S : Stands K mg "_law_sum" 61) : Df0 P w K mg base "_law_sum" 1 (spN rLSum) := by
  refine mk_pun S sc_61 (fun as r h => by obtain ⟨a, b, rfl, _⟩ := h; rfl) (fun _ _ _ _ _ _ us hl => match us, hl with | [_, _], _ => rfl) fun f cdv A outer s H E hr as r h => ?_
  obtain ⟨a, b, rfl, ha, hb, rfl⟩ := h
  refine gon_ret ((pun_catL (lcd1 ["_law_first", "_law_second", "_law_one"] (defScope (top 61)) 2 (xs := a) (enc := PyData.int) (fun x => !decide (x ∈ b)) PyData.int (src_list (pu_var 0)) sc_61.nd (by omega) (fun x _ _ _ _ _ _ => .one (put_cmp op_notIn_seq rv_ninL (by rfl) (pu_var 2) (pu_var 1))) (fun x _ _ _ _ _ _ _ => pu_var 2)).pun.pu
    (lcd1 ["_law_first", "_law_second", "_law_one"] (defScope (top 61)) 2 (xs := b) (enc := PyData.int) (fun x => !decide (x ∈ a)) PyData.int (src_list (pu_var 1)) sc_61.nd (by omega) (fun x _ _ _ _ _ _ => .one (put_cmp op_notIn_seq rv_ninL (by rfl) (pu_var 2) (pu_var 0))) (fun x _ _ _ _ _ _ _ => pu_var 2)).pun.pu ?_).to ?_)
  · have h1 := List.length_filter_le (fun x => !decide (x ∈ b)) a
    have h2 := List.length_filter_le (fun x => !decide (x ∈ a)) b
    rw [List.length_map, List.length_map]; omega
  · rw [symd, List.map_append]
    simp only [decide_not]
/-! ### _law_grown -/
def rLGr : List Rs → List PyData → Prop := fun as r => ∃ l : List Itm, l.length ≤ 1000 ∧ as = [.l (l.map eTI)] ∧ r = (gr l).map eTI
theorem sc_64 : FnScope ["_law_items", "_law_rows", "_law_height", "_law_size", "_law_simplex"] ["_law_items"] (defScope (top 64)) := ⟨rfl, rfl, rfl, by decide +kernel, rfl, by decide +kernel, by decide +kernel⟩
theorem ok_lgrown (M : Mg mg) (S : Stands K mg "_law_grown" 64) : Df0 P w K mg base "_law_grown" 1 (spN rLGr) := by
  refine mk_pun S sc_64 (fun as r h => by obtain ⟨l, _, rfl, _⟩ := h; rfl) (fun _ _ _ _ _ _ us hl => match us, hl with | [_], _ => rfl) fun f cdv A outer s H E hr as r h => ?_
  obtain ⟨l, hz, rfl, rfl⟩ := h
  have hu : (A.deeper (envOfC "_law_grown" (defScope (top 64)) s.heap.objs.size f cdv)).units + 100 < cLine := by have := hr.un; omega
  refine gon_set 1 sc_64.nd (ra := .l ((gr l).map kI)) (Pu.to (pun_sortedD (β := Itm) (enc := kI) (bs := l) M hu ((lcd2a (xs := l) (enc := eTI) (own := [("_law_simplex", 4), ("_law_height", 2)]) (g := g2 K 4 2) ["_law_items", "_law_rows", "_law_height", "_law_size", "_law_simplex"] (defScope (top 64)) (fun p => [some (.l (l.map eTI)), none, some (.d (.int p.2)), none, some (.d (eS p.1))]) kI (src_list (pu_var 0)) sc_64.nd (by omega)
    (fun _ _ _ _ _ => pg_2 4 2 sc_64.nd) (fun p _ => gd_2) (fun p _ _ _ _ _ _ => ?_)).pun.pu) (kI_alike l) (kI_sortable l) (fun p _ => by have := (gd_kI p).2; omega)).pu rfl) ?_
  · exact (pu_tup (ds := [.int p.2, .int (p.1.length : Nat), eS p.1]) (pua_cons (pu_var 2) (pua_cons ((pu_lenT M (pu_var 4)).to (by simp)) (pua_cons (pu_var 4) pua_nil)))).to rfl
  · exact gon_ret ((lcd2a (xs := gr l) (enc := kI) (own := [("_law_height", 2), ("_law_size", 3), ("_law_simplex", 4)]) (g := g3 K 2 3 4) ["_law_items", "_law_rows", "_law_height", "_law_size", "_law_simplex"] (defScope (top 64)) (fun p => [some (.l (l.map eTI)), some (.l ((gr l).map kI)), some (.d (.int p.2)), some (.d (.int (p.1.length : Nat))), some (.d (eS p.1))]) eTI (src_list (pu_var 1)) sc_64.nd (by rw [gr_length]; omega)
      (fun _ _ _ _ _ => pg_3 2 3 4 sc_64.nd) (fun p _ => gd_3) (fun p _ _ _ _ _ _ => (pu_tup (ds := [eS p.1, .int p.2]) (pua_cons (pu_var 4) (pua_cons (pu_var 2) pua_nil))).to rfl)).pun)
/-! ### _law_cofaces -/
def cofs (l : List Itm) (s : Sim) : List Sim := (l.filter fun p => decide (s ∈ fc p.1)).map (·.1)
def rLCo : List Rs → List PyData → Prop := fun as r => ∃ (l : List Itm) (s : Sim), VS l ∧ as = [.t l, .d (eS s)] ∧ r = (cofs l s).map eS
theorem sc_67 : FnScope ["_law_heights", "_law_simplex", "_law_other"] ["_law_heights", "_law_simplex"] (defScope (top 67)) := ⟨rfl, rfl, rfl, by decide +kernel, rfl, by decide +kernel, by decide +kernel⟩
theorem ok_lcof (M : Mg mg) (S : Stands K mg "_law_cofaces" 67) (DF : Df0 P w K mg base "_law_faces" 1 (spN rLFac)) : Df0 P w K mg base "_law_cofaces" 2 (spN rLCo) := by
  refine mk_pun S sc_67 (fun as r h => by obtain ⟨l, _, _, rfl, _⟩ := h; rfl) (fun _ _ _ _ _ _ us hl => match us, hl with | [_, _], _ => rfl) fun f cdv A outer s H E hr as r h => ?_
  obtain ⟨l, t, VV, rfl, rfl⟩ := h
  have hu : (A.deeper (envOfC "_law_cofaces" (defScope (top 67)) s.heap.objs.size f cdv)).units + 65 < cLine := by have := hr.un; omega
  refine gon_ret ((pun_lcT1 ["_law_heights", "_law_simplex", "_law_other"] (defScope (top 67)) 0 2 (fun p => decide (t ∈ fc p.1)) (fun p => eS p.1) sc_67.nd rfl (by have := VV.len; omega) (fun z hz _ _ _ _ _ => .one ?_) (fun z hz hp _ _ _ _ _ => pu_var 2)).to ?_)
  · exact (put_cmp (op_inD hu) (rv_inD (sh_S t) (sh_Ss (lf z.1))) (by rfl) (pu_var 1) (pun_call DF.df hr (pua_cons (pu_var 2) pua_nil) ⟨z.1, VV.sx z hz, rfl, rfl⟩).pu).to (by rw [any_S]; simp [lf])
  · unfold cofs; rw [List.map_map]; rfl
end
end K47
/-! P15: the law's deck -/
namespace K47
open PySem PySem.Spec PyProof.Rows L2
section
variable {X : Cx} {Γ : Gm} {σ : L2.St} {H : Hp} {o b : Expr} {pos : Pos}
theorem pu_ixX {φ : Hp → V → Prop} {m k} {i : Int} {r : Rs} (h : Pu X Γ o (.x φ m k)) (hb : Pu X Γ b (.d (.int i))) (hx : ∀ H v, φ H v → ∃ a vs u, v = .ref a ∧ H a = some (.lst vs) ∧ atI vs i = some u ∧ At H u r) (hs : PlainIx b := by exact fun _ _ => rfl) : Pu X Γ (.Subscript o b pos) r := fun σ H S Q q =>
  we_ixL (h σ H S _ fun v H1 s1 a1 => hb σ H1 (S.mono s1) _ fun y H2 s2 a2 => by
    cases a2
    have a2 : φ H2 v := m _ _ _ s2 a1
    obtain ⟨a, vs, u, rfl, h1, h2, h3⟩ := hx H2 v a2
    exact ⟨a, vs, i, u, rfl, rfl, h1, h2, q u H2 (s1.trans s2) h3⟩) hs
end
/-- the deck, its parts -/
def DKv (H : Hp) (d il : Addr) (c p s k : Int) (ns : List Int) : Prop := H d = some (.lst [.int c, .int p, .int s, .ref il, .int k]) ∧ H il = some (.lst (ns.map V.int))
theorem lock_ne {H : Hp} {d a : Addr} {od : Obj} {kvs : List (List L2.Key × V)} {vs : List V} (hd : H d = some (.dT kvs)) (h : H a = some (.lst vs)) : upd H d (.frz od (.dT kvs)) a = some (.lst vs) := by
  rw [upd_ne (ne_of h hd fun z => nomatch z)]; exact h
def dkR (d il : Addr) (c p s k : Int) (ns : List Int) : Rs := .x (fun H v => v = .ref d ∧ DKv H d il c p s k ns) (fun _ _ _ s h => ⟨h.1, s _ _ h.2.1, s _ _ h.2.2⟩) (fun _ _ _ _ _ hd h => ⟨h.1, lock_ne hd h.2.1, lock_ne hd h.2.2⟩)
def DK (H : Hp) (d il : Addr) (ns : List Int) : Prop := d ≠ il ∧ ∃ c p s k : Int, 0 ≤ p ∧ DKv H d il c p s k ns
section
variable {X : Cx} {Γ : Gm} {o b : Expr} {pos p2 : Pos} {d il : Addr} {c p s k : Int} {ns : List Int} {kk : _}
theorem pu_dk0 (h : Pu X Γ o (dkR d il c p s k ns)) : Pu X Γ (.Subscript o (.Constant (.int 0) kk p2) pos) (.d (.int c)) := pu_ixX h pu_int fun H v a => ⟨d, _, _, a.1, a.2.1, atI_nat' (n := 0) rfl rfl, .int _⟩
theorem pu_dk1 (h : Pu X Γ o (dkR d il c p s k ns)) : Pu X Γ (.Subscript o (.Constant (.int 1) kk p2) pos) (.d (.int p)) := pu_ixX h pu_int fun H v a => ⟨d, _, _, a.1, a.2.1, atI_nat' (n := 1) rfl rfl, .int _⟩
theorem pu_dk2 (h : Pu X Γ o (dkR d il c p s k ns)) : Pu X Γ (.Subscript o (.Constant (.int 2) kk p2) pos) (.d (.int s)) := pu_ixX h pu_int fun H v a => ⟨d, _, _, a.1, a.2.1, atI_nat' (n := 2) rfl rfl, .int _⟩
theorem pu_dk3 (h : Pu X Γ o (dkR d il c p s k ns)) : Pu X Γ (.Subscript o (.Constant (.int 3) kk p2) pos) (.l (ns.map .int)) := pu_ixX h pu_int fun H v a => ⟨d, _, _, a.1, a.2.1, atI_nat' (n := 3) rfl rfl, il, rfl, Ls.of_ints a.2.2⟩
theorem pu_dk4 (h : Pu X Γ o (dkR d il c p s k ns)) : Pu X Γ (.Subscript o (.Constant (.int 4) kk p2) pos) (.d (.int k)) := pu_ixX h pu_int fun H v a => ⟨d, _, _, a.1, a.2.1, atI_nat' (n := 4) rfl rfl, .int _⟩
end
section
variable {P : Program} {w : World} {K : PySem.W.Frag} {mg : Str → Option Value} {base : Heap}
def spDraw : Sp := fun vs H Q _ => ∃ (d il : Addr) (ns : List Int) (b : Int), vs = [V.ref d, .int b] ∧ DK H d il ns ∧ 0 < b ∧ b < 1073741824 ∧ ∀ (v : Int) H', 0 ≤ v → v < b → DK H' d il ns → Fr [d] H H' → Tx H H' → Q (.int v) H'
theorem sc_58 : FnScope ["_law_deck_here", "_law_bound", "_law_number", "_law_value"] ["_law_deck_here", "_law_bound"] (defScope (top 58)) := ⟨rfl, rfl, rfl, by decide +kernel, rfl, by decide +kernel, by decide +kernel⟩
theorem ok_ldraw (M : Mg mg) (S : Stands K mg "_law_draw" 58) : Df0 P w K mg base "_law_draw" 1 spDraw := by
  refine mk_def S sc_58 (fun vs H Q E h => by obtain ⟨_, _, _, _, rfl, _⟩ := h; rfl) (fun _ _ _ _ _ _ us hl => match us, hl with | [_, _], _ => rfl) fun f cdv A outer s H vs Q E hr h => ?_
  obtain ⟨d, il, ns, b, rfl, ⟨hne, c, p, sd, k, hp, hD⟩, hb0, hb1, q'⟩ := h
  have hv : L2.start ["_law_deck_here", "_law_bound", "_law_number", "_law_value"] [V.ref d, .int b] = [some (.ref d), some (.int b), none, none] := rfl
  rw [hv]
  have SL : ∀ (H' : Hp) (c p sd k : Int) (x y : Option V), DKv H' d il c p sd k ns → Sl H' [some (V.ref d), some (.int b), x, y] [some (dkR d il c p sd k ns), some (.d (.int b)), none, none] := fun H' c p sd k x y h' => ⟨rfl, fun i r z => by
    match i with
    | 0 => cases z; exact ⟨_, rfl, rfl, h'⟩
    | 1 => cases z; exact ⟨_, rfl, .int _⟩
    | 2 => cases z
    | 3 => cases z
    | i + 4 => cases z⟩
  -- a store into the deck
  have put : ∀ (H' : Hp) (vs : List V), H' d = some (.lst vs) → H' il = some (.lst (ns.map V.int)) → ∀ (vs' : List V), (upd H' d (.lst vs')) il = some (.lst (ns.map V.int)) ∧ Fr [d] H' (upd H' d (.lst vs')) ∧ Tx H' (upd H' d (.lst vs')) := fun H' vs h1 h2 vs' => ⟨by rw [upd_ne hne.symm]; exact h2, .upd (by simp), .mut h1 fun _ z => nomatch z⟩
  -- the end
  have fin : ∀ (H' : Hp) (c p sd k : Int) (x : Option V), 0 ≤ p → DKv H' d il c p sd k ns → Fr [d] H H' → Tx H H' → WSs (cxOf CX0 P w K mg base ["_law_deck_here", "_law_bound", "_law_number", "_law_value"] "_law_draw" (defScope (top 58)) f cdv A outer s H E).nox ((defBody (top 58)).drop 1) { nx := fun _ H' => Q .non H', rt := Q } [some (.ref d), some (.int b), x, none] H' := by
    intro H1 c p sd k x hp h1 f1 t1
    refine wss_cons (ws_set 3 sc_58.nd (SL H1 c p sd k x none h1) (pu_mod (pu_intI M (pu_dk0 (pu_var 0))) (pu_var 1) hb0) fun v2 H2 s2 a2 => ?_)
    cases a2
    show WSs _ _ _ [some (.ref d), some (.int b), x, some (.int (c % b))] H2
    have h2 : DKv H2 d il c p sd k ns := ⟨s2 _ _ h1.1, s2 _ _ h1.2⟩
    refine wss_cons (ws_setL (we_pu (SL H2 c p sd k x _ h2) (pu_fdiv (pu_dk0 (pu_var 0)) (pu_var 1) ⟨hb0, hb1⟩) fun y H3 s3 a3 => we_name 0 rfl (we_pu (SL H3 c p sd k x _ ⟨s3 _ _ h2.1, s3 _ _ h2.2⟩) (pu_int (i := 0)) fun z H4 s4 a4 => ?_)))
    cases a3; cases a4
    have h4 : DKv H4 d il c p sd k ns := ⟨s4 _ _ (s3 _ _ h2.1), s4 _ _ (s3 _ _ h2.2)⟩
    refine ⟨d, _, 0, 0, rfl, rfl, h4.1, ixN_nat' (by simp) rfl, ?_⟩
    obtain ⟨g1, g2, g3⟩ := put H4 _ h4.1 h4.2 ([V.int c, .int p, .int sd, .ref il, .int k].set 0 (.int (c / b)))
    have s24 := (s2.trans s3).trans s4
    exact wss_one (ws_retW (we_name 3 rfl (q' (c % b) _ (Int.emod_nonneg _ (by omega)) (Int.emod_lt_of_pos _ hb0) ⟨hne, c / b, p, sd, k, hp, upd_same, g1⟩ (f1.trans ((Fr.of s24).trans g2)) (t1.trans ((Tx.of s24).trans g3)))))
  have S0 := SL H c p sd k none none hD
  have at_list : p < (ns.length : Int) → atI (ns.map PyData.int) p = some (.int (ns.getD p.toNat 0)) := fun hlt => by
    refine atI_nat' (n := p.toNat) ?_ (by omega)
    rw [List.getElem?_map, List.getD_eq_getElem?_getD, List.getElem?_eq_getElem (by omega)]; rfl
  refine wss_cons (ws_if S0 ((PuB.t (pub_and (put_cmp op_eq rv_eqI (by rfl) (pu_dk0 (pu_var 0)) pu_int) fun _ => pub_and1 (put_cmp op_lt rv_lt (by rfl) (pu_dk1 (pu_var 0)) (pu_lenL M (pu_dk3 (pu_var 0)))))).to rfl) (fun hc H1 s1 => ?_) fun hc H1 s1 => ?_)
  · -- a number of the script
    simp only [Bool.and_eq_true, decide_eq_true_eq, List.length_map] at hc
    have h1 : DKv H1 d il c p sd k ns := ⟨s1 _ _ hD.1, s1 _ _ hD.2⟩
    refine wss_cons (ws_setL (we_pu (SL H1 c p sd k none none h1) (pu_abs M (pu_ixL (pu_dk3 (pu_var 0)) (pu_dk1 (pu_var 0)) (at_list hc.2))) fun y H3 s3 a3 => we_name 0 rfl (we_pu (SL H3 c p sd k none none ⟨s3 _ _ h1.1, s3 _ _ h1.2⟩) (pu_int (i := 0)) fun z H4 s4 a4 => ?_)))
    cases a3; cases a4
    have h4 : DKv H4 d il c p sd k ns := ⟨s4 _ _ (s3 _ _ h1.1), s4 _ _ (s3 _ _ h1.2)⟩
    refine ⟨d, _, 0, 0, rfl, rfl, h4.1, ixN_nat' (by simp) rfl, ?_⟩
    obtain ⟨g1, g2, g3⟩ := put H4 _ h4.1 h4.2 ([V.int c, .int p, .int sd, .ref il, .int k].set 0 (.int ((ns.getD p.toNat 0).natAbs : Nat)))
    have f4 := (Fr.of ((s1.trans s3).trans s4)).trans g2
    have t4 := (Tx.of ((s1.trans s3).trans s4)).trans g3
    have h5 : DKv (upd H4 d (.lst ([V.int c, .int p, .int sd, .ref il, .int k].set 0 (.int ((ns.getD p.toNat 0).natAbs : Nat))))) d il ((ns.getD p.toNat 0).natAbs : Nat) p sd k ns := ⟨upd_same, g1⟩
    generalize upd H4 d (.lst ([V.int c, .int p, .int sd, .ref il, .int k].set 0 (.int ((ns.getD p.toNat 0).natAbs : Nat)))) = H5 at f4 t4 h5
    generalize (((ns.getD p.toNat 0).natAbs : Nat) : Int) = c1 at h5
    refine wss_one (ws_setL (we_pu (SL H5 c1 p sd k none none h5) (pu_add (pu_dk1 (pu_var 0)) pu_int) fun y H6 s6 a6 => we_name 0 rfl (we_pu (SL H6 c1 p sd k none none ⟨s6 _ _ h5.1, s6 _ _ h5.2⟩) (pu_int (i := 1)) fun z H7 s7 a7 => ?_)))
    cases a6; cases a7
    have h7 : DKv H7 d il c1 p sd k ns := ⟨s7 _ _ (s6 _ _ h5.1), s7 _ _ (s6 _ _ h5.2)⟩
    refine ⟨d, _, 1, 1, rfl, rfl, h7.1, ixN_nat' (by simp) rfl, ?_⟩
    obtain ⟨g4, g5, g6⟩ := put H7 _ h7.1 h7.2 ([V.int c1, .int p, .int sd, .ref il, .int k].set 1 (.int (p + 1)))
    exact fin _ c1 (p + 1) sd k none (by omega) ⟨upd_same, g4⟩ (f4.trans ((Fr.of (s6.trans s7)).trans g5)) (t4.trans ((Tx.of (s6.trans s7)).trans g6))
  · have h1 : DKv H1 d il c p sd k ns := ⟨s1 _ _ hD.1, s1 _ _ hD.2⟩
    refine wss_one (ws_if (SL H1 c p sd k none none h1) (put_cmp op_eq rv_eqI (by rfl) (pu_dk0 (pu_var 0)) pu_int) (fun hc2 H2 s2 => ?_) fun hc2 H2 s2 => wss_nil (fin H2 c p sd k none hp ⟨s2 _ _ h1.1, s2 _ _ h1.2⟩ (.of (s1.trans s2)) (.of (s1.trans s2))))
    have h2 : DKv H2 d il c p sd k ns := ⟨s2 _ _ h1.1, s2 _ _ h1.2⟩
    -- deck[4] = deck[4] + 1
    refine wss_cons (ws_setL (we_pu (SL H2 c p sd k none none h2) (pu_add (pu_dk4 (pu_var 0)) pu_int) fun y H3 s3 a3 => we_name 0 rfl (we_pu (SL H3 c p sd k none none ⟨s3 _ _ h2.1, s3 _ _ h2.2⟩) (pu_int (i := 4)) fun z H4 s4 a4 => ?_)))
    cases a3; cases a4
    have h4 : DKv H4 d il c p sd k ns := ⟨s4 _ _ (s3 _ _ h2.1), s4 _ _ (s3 _ _ h2.2)⟩
    refine ⟨d, _, 4, 4, rfl, rfl, h4.1, ixN_nat' (by simp) rfl, ?_⟩
    obtain ⟨g1, g2, g3⟩ := put H4 _ h4.1 h4.2 ([V.int c, .int p, .int sd, .ref il, .int k].set 4 (.int (k + 1)))
    have f4 := (Fr.of (((s1.trans s2).trans s3).trans s4)).trans g2
    have t4 := (Tx.of (((s1.trans s2).trans s3).trans s4)).trans g3
    have h5 : DKv (upd H4 d (.lst ([V.int c, .int p, .int sd, .ref il, .int k].set 4 (.int (k + 1))))) d il c p sd (k + 1) ns := ⟨upd_same, g1⟩
    generalize upd H4 d (.lst ([V.int c, .int p, .int sd, .ref il, .int k].set 4 (.int (k + 1)))) = H5 at f4 t4 h5
    generalize k + 1 = k1 at h5
    -- number, three times
    have big : ∀ i j : Int, -(2 ^ 64) < j → j < 2 ^ 64 → CMul i j := fun i j h1 h2 => .inr ⟨h1, h2⟩
    have bigl : ∀ i j : Int, -(2 ^ 64) < i → i < 2 ^ 64 → CMul i j := fun i j h1 h2 => .inl ⟨h1, h2⟩
    refine wss_cons (ws_set 2 sc_58.nd (SL H5 c p sd k1 none none h5) (pu_mod (pu_intI M (pu_add (pu_add (pu_mul (pu_dk2 (pu_var 0)) pu_int (big _ _ (by decide) (by decide))) (pu_mul (pu_dk4 (pu_var 0)) pu_int (big _ _ (by decide) (by decide)))) pu_int)) pu_int (by decide)) fun v6 H6 s6 a6 => ?_)
    cases a6
    have h6 : DKv H6 d il c p sd k1 ns := ⟨s6 _ _ h5.1, s6 _ _ h5.2⟩
    have b1 := Int.emod_nonneg (sd * 48271 + k1 * 69621 + 12345) (show (2147483647 : Int) ≠ 0 by decide)
    have b2 := Int.emod_lt_of_pos (sd * 48271 + k1 * 69621 + 12345) (show (0 : Int) < 2147483647 by decide)
    show WSs _ _ _ [some (.ref d), some (.int b), some (.int ((sd * 48271 + k1 * 69621 + 12345) % 2147483647)), none] H6
    generalize (sd * 48271 + k1 * 69621 + 12345) % 2147483647 = n1 at b1 b2
    have S6 := (SL H6 c p sd k1 (some (.int n1)) none h6).add 2 (r := .d (.int n1)) rfl (.int _)
    refine wss_cons (ws_set 2 sc_58.nd S6 (pu_mod (pu_intI M (pu_add (pu_add (pu_mul (pu_var 2) (pu_var 2) (bigl _ _ (by omega) (by omega))) (pu_mul pu_int (pu_dk4 (pu_var 0)) (bigl _ _ (by decide) (by decide)))) pu_int)) pu_int (by decide)) fun v7 H7 s7 a7 => ?_)
    cases a7
    have h7 : DKv H7 d il c p sd k1 ns := ⟨s7 _ _ h6.1, s7 _ _ h6.2⟩
    have b3 := Int.emod_nonneg (n1 * n1 + 16807 * k1 + 7) (show (998244353 : Int) ≠ 0 by decide)
    have b4 := Int.emod_lt_of_pos (n1 * n1 + 16807 * k1 + 7) (show (0 : Int) < 998244353 by decide)
    show WSs _ _ _ [some (.ref d), some (.int b), some (.int ((n1 * n1 + 16807 * k1 + 7) % 998244353)), none] H7
    generalize (n1 * n1 + 16807 * k1 + 7) % 998244353 = n2 at b3 b4
    have S7 := (SL H7 c p sd k1 (some (.int n2)) none h7).add 2 (r := .d (.int n2)) rfl (.int _)
    refine wss_cons (ws_set 2 sc_58.nd S7 (pu_mod (pu_intI M (pu_add (pu_add (pu_mul (pu_var 2) (pu_var 2) (bigl _ _ (by omega) (by omega))) (pu_mul pu_int (pu_dk4 (pu_var 0)) (bigl _ _ (by decide) (by decide)))) (pu_dk2 (pu_var 0)))) pu_int (by decide)) fun v8 H8 s8 a8 => ?_)
    cases a8
    have h8 : DKv H8 d il c p sd k1 ns := ⟨s8 _ _ h7.1, s8 _ _ h7.2⟩
    show WSs _ _ _ [some (.ref d), some (.int b), some (.int ((n2 * n2 + 48271 * k1 + sd) % 2147483629)), none] H8
    generalize (n2 * n2 + 48271 * k1 + sd) % 2147483629 = n3
    have S8 := (SL H8 c p sd k1 (some (.int n3)) none h8).add 2 (r := .d (.int n3)) rfl (.int _)
    refine wss_one (ws_setL (we_pu S8 (pu_fdiv (pu_var 2) pu_int ⟨by decide, by decide⟩) fun y H9 s9 a9 => we_name 0 rfl (we_pu (S8.mono s9) (pu_int (i := 0)) fun z H10 s10 a10 => ?_)))
    cases a9; cases a10
    have h10 : DKv H10 d il c p sd k1 ns := ⟨s10 _ _ (s9 _ _ h8.1), s10 _ _ (s9 _ _ h8.2)⟩
    refine ⟨d, _, 0, 0, rfl, rfl, h10.1, ixN_nat' (by simp) rfl, ?_⟩
    obtain ⟨g4, g5, g6⟩ := put H10 _ h10.1 h10.2 ([V.int c, .int p, .int sd, .ref il, .int k1].set 0 (.int (n3 / 13)))
    have s510 := (((s6.trans s7).trans s8).trans s9).trans s10
    exact fin _ (n3 / 13) p sd k1 _ hp ⟨upd_same, g4⟩ (f4.trans ((Fr.of s510).trans g5)) (t4.trans ((Tx.of s510).trans g6))
end
end K47
/-! M8: the law's columns and the program's have the same lows. -/
namespace K47
open PySem PySem.Spec PyProof.Rows L2
def DN (os : List Sim) : Nat → Vec := fun i => Dv os (i : Nat)
structure LC (os : List Sim) (cols : List (List Int)) (fl : List (Nat × Nat)) : Prop where
  nd : ∀ c ∈ cols, c.Nodup
  bd : ∀ c ∈ cols, ∀ x ∈ c, 0 ≤ x ∧ x < os.length
  rd : ∀ (j : Nat) (c : List Int), cols[j]? = some c → Spn (DN os) j (vx (vc c) (DN os j))
  rp : ∀ l j : Nat, lkF fl l = some j ↔ ∃ c, cols[j]? = some c ∧ Low (vc c) (l : Int)
  fln : fl.length ≤ cols.length
theorem sv_spn {os : List Sim} {j : Nat} : ∀ {l : List Int}, (∀ i ∈ l, 0 ≤ i ∧ i < j) → Spn (DN os) j (sv (Dv os) l)
  | [], _ => .zero
  | i :: l, h => by
    obtain ⟨h1, h2⟩ := h i (by simp)
    have ih := sv_spn (os := os) (j := j) (l := l) fun k hk => h k (by simp [hk])
    show Spn _ _ (vx (Dv os i) (sv (Dv os) l))
    rw [vx_comm]
    have e : Dv os i = DN os i.toNat := by
      show Dv os i = Dv os ((i.toNat : Nat) : Int)
      rw [show ((i.toNat : Nat) : Int) = i by omega]
    rw [e]
    exact .add ih (by omega)
/-- a column of the program -/
theorem KV.rd {os : List Sim} {cs bs : List (List Int)} (V : KV os cs bs) {j : Nat} {b : List Int} (hb : bs[j]? = some b) : Spn (DN os) j (vx (vc b) (DN os j)) := by
  have hl : j < cs.length := by rw [V.lc, ← V.lb]; exact (List.getElem?_eq_some_iff.mp hb).1
  have hc : cs[j]? = some cs[j] := List.getElem?_eq_getElem hl
  obtain ⟨a1, a2, a3⟩ := V.ch j _ hc
  have e1 := (V.bn j b _ hb hc).2
  generalize cs[j] = c at *
  have hne : c ≠ [] := fun z => by rw [z] at a2; simp at a2
  have e2 : c = c.dropLast ++ [(j : Int)] := by
    have h1 := List.dropLast_concat_getLast hne
    have h2 : c.getLast hne = j := by
      rw [List.getLast?_eq_some_getLast hne] at a2
      exact Option.some.inj a2
    rw [h2] at h1; exact h1.symm
  have e3 : vx (vc b) (DN os j) = sv (Dv os) c.dropLast := by
    rw [e1]
    conv => lhs; rw [e2]
    rw [sv_append]
    show vx (vx _ (vx (Dv os j) vz)) (Dv os j) = _
    rw [vx_z, vx_cancel]
  rw [e3]
  refine sv_spn fun i hi => ?_
  have hm : i ∈ c := by rw [e2]; simp [hi]
  have hle := asc_last a1 a2 i hm
  refine ⟨(a3 i hm).1, ?_⟩
  have hne2 : i ≠ j := fun z => by
    subst z
    have := a1.nodup
    rw [e2, List.nodup_append] at this
    exact this.2.2 _ hi _ (by simp) rfl
  omega
section
variable {os : List Sim} {cols cs bs : List (List Int)} {fl fl0 : List (Nat × Nat)}
theorem lc_low (L : LC os cols fl) (V : KV os cs bs) (O : OV os) (R : RP bs fl0 os.length) (hl : cols.length = os.length) {j : Nat} {c b : List Int} (hc : cols[j]? = some c) (hb : bs[j]? = some b) (l : Int) : Low (vc c) l ↔ Low (vc b) l := by
  have hj : j < os.length := by rw [← hl]; exact (List.getElem?_eq_some_iff.mp hc).1
  have gC : ∀ i, i < os.length → ∃ c, cols[i]? = some c := fun i hi => ⟨_, List.getElem?_eq_getElem (by omega)⟩
  have gB : ∀ i, i < os.length → ∃ b, bs[i]? = some b := fun i hi => ⟨_, List.getElem?_eq_getElem (by rw [V.lb]; exact hi)⟩
  let bc : Nat → Vec := fun i => vc (cols.getD i [])
  let bb : Nat → Vec := fun i => vc (bs.getD i [])
  have eC : ∀ {i c}, cols[i]? = some c → bc i = vc c := fun h => by show vc (cols.getD _ []) = _; rw [getD_of h]
  have eB : ∀ {i b}, bs[i]? = some b → bb i = vc b := fun h => by show vc (bs.getD _ []) = _; rw [getD_of h]
  have r1 : Rdc (DN os) bc os.length := fun i hi => by
    obtain ⟨c, hc⟩ := gC i hi
    rw [eC hc]; exact L.rd i c hc
  have r2 : Rdc (DN os) bb os.length := fun i hi => by
    obtain ⟨b, hb⟩ := gB i hi
    rw [eB hb]; exact V.rd hb
  have bd1 : Bdd bc os.length := ⟨os.length, fun i hi x hx => by
    obtain ⟨c, hc⟩ := gC i hi
    rw [eC hc] at hx
    exact L.bd c (List.mem_of_getElem? hc) x (by simpa [vc] using hx)⟩
  have bd2 : Bdd bb os.length := ⟨os.length, fun i hi x hx => by
    obtain ⟨b, hb⟩ := gB i hi
    rw [eB hb] at hx
    have := V.row O hb (x := x) (by simpa [vc] using hx)
    omega⟩
  have ascB : ∀ {i b}, bs[i]? = some b → Asc b := fun {i b} h => by
    obtain ⟨c', b', h1, h2⟩ := V.both (j := i) (by rw [← V.lb]; exact (List.getElem?_eq_some_iff.mp h).1)
    rw [h] at h2
    cases h2
    exact (V.bn i b c' h h1).1
  have d1 : Dst bc os.length := fun i k m hi hk h1 h2 => by
    obtain ⟨c1, hc1⟩ := gC i hi
    obtain ⟨c2, hc2⟩ := gC k hk
    rw [eC hc1] at h1
    rw [eC hc2] at h2
    have hm := L.bd c1 (List.mem_of_getElem? hc1) m (by simpa [vc] using h1.1)
    obtain ⟨m', rfl⟩ := Int.eq_ofNat_of_zero_le hm.1
    have e1 := (L.rp m' i).mpr ⟨c1, hc1, h1⟩
    have e2 := (L.rp m' k).mpr ⟨c2, hc2, h2⟩
    rw [e1] at e2; exact Option.some.inj e2
  have d2 : Dst bb os.length := fun i k m hi hk h1 h2 => by
    obtain ⟨b1, hb1⟩ := gB i hi
    obtain ⟨b2, hb2⟩ := gB k hk
    rw [eB hb1] at h1
    rw [eB hb2] at h2
    have hm := V.row O hb1 (x := m) (by simpa [vc] using h1.1)
    obtain ⟨m', rfl⟩ := Int.eq_ofNat_of_zero_le hm.1
    have e1 := (R.iff m' i).mpr ⟨hi, b1, hb1, (low_last (ascB hb1)).mpr h1⟩
    have e2 := (R.iff m' k).mpr ⟨hk, b2, hb2, (low_last (ascB hb2)).mpr h2⟩
    rw [e1] at e2; exact Option.some.inj e2
  rw [← eC hc, ← eB hb]
  exact ⟨low_same r1 r2 d1 d2 bd1 bd2 j hj l, low_same r2 r1 d2 d1 bd2 bd1 j hj l⟩
theorem low_nil {c : List Int} (h : ∀ x ∈ c, 0 ≤ x ∧ x < N) : c = [] ↔ ∀ l, ¬ Low (vc c) l := by
  constructor
  · intro e l hl
    subst e
    have := hl.1
    simp [vc] at this
  · intro h2
    cases c with
    | nil => rfl
    | cons a r =>
      exfalso
      obtain ⟨l, hl⟩ := low_ex (v := vc (a :: r)) (N := N) (fun x hx => h x (by simpa [vc] using hx)) (fun z => by
        have : vc (a :: r) a = vz a := by rw [z]
        simp [vc, vz] at this)
      exact h2 l hl
/-- THE PAIRS of the law are the program's -/
theorem lc_pairs (L : LC os cols fl) (V : KV os cs bs) (O : OV os) (R : RP bs fl0 os.length) (hl : cols.length = os.length) : ((List.range os.length).filter fun n => decide (cols.getD n [] = [])).map (fun n => (n, lkF fl n)) = pairsOf bs fl0 := by
  have e1 : ∀ n, lkF fl n = lkF fl0 n := fun n => by
    apply Option.ext
    intro j
    rw [L.rp, R.iff]
    constructor
    · rintro ⟨c, hc, hlow⟩
      have hj : j < os.length := by rw [← hl]; exact (List.getElem?_eq_some_iff.mp hc).1
      obtain ⟨c', b, hc', hb⟩ := V.both hj
      exact ⟨hj, b, hb, (low_last (V.bn j b c' hb hc').1).mpr ((lc_low L V O R hl hc hb n).mp hlow)⟩
    · rintro ⟨hj, b, hb, hlast⟩
      obtain ⟨c', b', hc', hb'⟩ := V.both hj
      rw [hb] at hb'
      cases hb'
      have hc : cols[j]? = some cols[j] := List.getElem?_eq_getElem (by omega)
      exact ⟨_, hc, (lc_low L V O R hl hc hb n).mpr ((low_last (V.bn j b c' hb hc').1).mp hlast)⟩
  have e2 : (List.range os.length).filter (fun n => decide (cols.getD n [] = [])) = birthsOf bs := by
    have h1 : birthsOf bs = (List.range os.length).filter fun n => decide (bs.getD n [] = []) := by
      unfold birthsOf
      have : ∀ (xs : List (List Int)), (xs.zipIdx.filter fun q => decide (q.1 = [])).map (·.2) = (List.range xs.length).filter fun n => decide (xs.getD n [] = []) := by
        intro xs
        have hz : xs.zipIdx = (List.range xs.length).map fun n => (xs.getD n [], n) := by
          apply List.ext_getElem
          · simp
          · intro i h1 h2
            simp at h1 h2 ⊢
            rw [List.getElem?_eq_getElem h1]; rfl
        rw [hz, List.filter_map, List.map_map]
        simp [Function.comp_def]
      rw [this, V.lb]
    rw [h1]
    apply List.filter_congr
    intro n hn
    rw [List.mem_range] at hn
    obtain ⟨c', b, hc', hb⟩ := V.both hn
    have hc : cols[n]? = some cols[n] := List.getElem?_eq_getElem (by omega)
    rw [getD_of hc, getD_of hb]
    have q1 := low_nil (N := os.length) (L.bd _ (List.mem_of_getElem? hc))
    have q2 := low_nil (c := b) (N := os.length) fun x hx => by have := V.row O hb hx; omega
    have q3 : (∀ l, ¬ Low (vc cols[n]) l) ↔ ∀ l, ¬ Low (vc b) l := forall_congr' fun l => not_congr (lc_low L V O R hl hc hb l)
    have : (cols[n] = []) ↔ b = [] := q1.trans (q3.trans q2.symm)
    simp [this]
  unfold pairsOf
  rw [e2]
  apply List.map_congr_left
  intro n _
  rw [e1]
end
end K47
/-! P16: _law_pairs -/
namespace K47
open PySem PySem.Spec PyProof.Rows L2
theorem LC.nil (os : List Sim) : LC os [] [] := ⟨(fun c h => nomatch h), (fun c h => nomatch h), (fun j c h => by simp at h), (fun l j => ⟨fun h => by simp [lkF] at h, fun ⟨c, h, _⟩ => by simp at h⟩), by simp⟩
theorem LC.snoc {os : List Sim} {cols : List (List Int)} {fl fl' : List (Nat × Nat)} (L : LC os cols fl) {c : List Int} (nd : c.Nodup) (bd : ∀ x ∈ c, 0 ≤ x ∧ x < os.length) (rd : Spn (DN os) cols.length (vx (vc c) (DN os cols.length))) (fln : fl'.length ≤ cols.length + 1)
    (rp : ∀ l j : Nat, lkF fl' l = some j ↔ lkF fl l = some j ∨ (j = cols.length ∧ Low (vc c) (l : Int))) : LC os (cols ++ [c]) fl' where
  nd := fun d hd => by
    rcases List.mem_append.mp hd with z | z
    · exact L.nd d z
    · rw [List.mem_singleton.mp z]; exact nd
  bd := fun d hd => by
    rcases List.mem_append.mp hd with z | z
    · exact L.bd d z
    · rw [List.mem_singleton.mp z]; exact bd
  rd := fun j d hd => by
    by_cases e : j < cols.length
    · rw [List.getElem?_append_left e] at hd; exact L.rd j d hd
    · have hl := (List.getElem?_eq_some_iff.mp hd).1
      simp at hl
      have ej : j = cols.length := by omega
      subst ej
      simp at hd
      subst hd; exact rd
  rp := fun l j => by
    rw [rp, L.rp]
    constructor
    · rintro (⟨d, h1, h2⟩ | ⟨h1, h2⟩)
      · exact ⟨d, by rw [List.getElem?_append_left (List.getElem?_eq_some_iff.mp h1).1]; exact h1, h2⟩
      · exact ⟨c, by rw [h1]; simp, h2⟩
    · rintro ⟨d, h1, h2⟩
      by_cases e : j < cols.length
      · rw [List.getElem?_append_left e] at h1; exact .inl ⟨d, h1, h2⟩
      · have hl := (List.getElem?_eq_some_iff.mp h1).1
        simp at hl
        have ej : j = cols.length := by omega
        subst ej
        simp at h1
        subst h1; exact .inr ⟨rfl, h2⟩
  fln := by simpa using fln
/-- the greatest of a list -/
theorem max_ex {c : List Int} (h : c ≠ []) : ∃ m ∈ c, ∀ x ∈ c, x ≤ m := by
  induction c with
  | nil => exact absurd rfl h
  | cons a r ih =>
    by_cases e : r = []
    · subst e; exact ⟨a, by simp, by simp⟩
    · obtain ⟨m, h1, h2⟩ := ih e
      by_cases z : a ≤ m
      · refine ⟨m, by simp [h1], fun x hx => ?_⟩
        rcases List.mem_cons.mp hx with q | q
        · omega
        · exact h2 x q
      · refine ⟨a, by simp, fun x hx => ?_⟩
        rcases List.mem_cons.mp hx with q | q
        · omega
        · have := h2 x q
          omega
theorem low_max {c : List Int} {m : Int} (h1 : m ∈ c) (h2 : ∀ x ∈ c, x ≤ m) : Low (vc c) m := ⟨by simp [vc, h1], fun k hk => h2 k (by simpa [vc] using hk)⟩
/-- a list of lists of ints -/
def CL (H : Hp) (q : Addr) (cols : List (List Int)) : Prop := ∃ qs : List Addr, H q = some (.lst (qs.map V.ref)) ∧ Paired (fun a c => Ls H a (c.map .int)) qs cols
theorem CL.mono {H H' : Hp} {q : Addr} {cols : List (List Int)} (h : CL H q cols) (s : Same H H') : CL H' q cols := by
  obtain ⟨qs, h1, h2⟩ := h
  exact ⟨qs, s _ _ h1, Paired.mapP h2 fun _ _ z => z.mono s⟩
theorem Ls.lock {H : Hp} {d a : Addr} {od : Obj} {kvs : List (List L2.Key × V)} {ds : List PyData} (hd : H d = some (.dT kvs)) (h : Ls H a ds) : Ls (upd H d (.frz od (.dT kvs))) a ds := by
  obtain ⟨vs, h1, h2⟩ := h
  exact ⟨vs, lock_ne hd h1, h2.mono (.mut hd fun _ z => nomatch z)⟩
def clR (q : Addr) (cols : List (List Int)) : Rs := .x (fun H v => v = .ref q ∧ CL H q cols) (fun _ _ _ s h => ⟨h.1, h.2.mono s⟩) (fun _ _ _ _ _ hd h => ⟨h.1, by
  obtain ⟨qs, h1, h2⟩ := h.2
  exact ⟨qs, lock_ne hd h1, Paired.mapP h2 fun _ _ z => z.lock hd⟩⟩)
theorem pu_cl {X : Cx} {Γ : Gm} {o b : Expr} {pos : Pos} {q : Addr} {cols : List (List Int)} {i : Int} {n : Nat} {c : List Int} (h : Pu X Γ o (clR q cols)) (hb : Pu X Γ b (.d (.int i))) (hn : cols[n]? = some c) (e : i = n) (hs : PlainIx b := by exact fun _ _ => rfl) : Pu X Γ (.Subscript o b pos) (.l (c.map .int)) :=
  pu_ixX h hb (fun H v ⟨ev, qs, h1, h2⟩ => by
    obtain ⟨a, h3, h4⟩ := paired_get h2 hn
    exact ⟨q, qs.map V.ref, .ref a, ev, h1, atI_nat' (n := n) (by rw [List.getElem?_map, h3]; rfl) e, a, rfl, h4⟩) hs
section
variable {P : Program} {w : World} {K : PySem.W.Frag} {mg : Str → Option Value} {base : Heap}
def rLP : List Rs → List PyData → Prop := fun as r => ∃ (os : List Sim) (cs bs : List (List Int)) (fl : List (Nat × Nat)), as = [.l (os.map eS)] ∧ OV os ∧ KV os cs bs ∧ RP bs fl os.length ∧ r = (pairsOf bs fl).map eP
theorem sc_62 : FnScope ["_law_order", "_law_columns", "_law_owner", "_law_place", "_law_column", "_law_turn", "_law_face"] ["_law_order"] (defScope (top 62)) := ⟨rfl, rfl, rfl, by decide +kernel, rfl, by decide +kernel, by decide +kernel⟩
theorem ok_lpairs (M : Mg mg) (S : Stands K mg "_law_pairs" 62) (DF : Df0 P w K mg base "_law_faces" 1 (spN rLFac)) (DS : Df0 P w K mg base "_law_sum" 1 (spN rLSum)) : Df0 P w K mg base "_law_pairs" 2 (spN rLP) := by
  refine mk_pun S sc_62 (fun as r h => by obtain ⟨_, _, _, _, rfl, _⟩ := h; rfl) (fun _ _ _ _ _ _ us hl => match us, hl with | [_], _ => rfl) fun f cdv A outer s H E hr as r h => ?_
  obtain ⟨os, cs, bs, fl0, rfl, O, KVh, RPh, rfl⟩ := h
  have hu1 : (A.deeper (envOfC "_law_pairs" (defScope (top 62)) s.heap.objs.size f cdv)).units + 1 < cLine := by have := hr.un; omega
  have hu : (A.deeper (envOfC "_law_pairs" (defScope (top 62)) s.heap.objs.size f cdv)).units + 65 < cLine := by have := hr.un; omega
  have hos := O.len
  have hu64 : (A.deeper (envOfC "_law_pairs" (defScope (top 62)) s.heap.objs.size f cdv)).units + 64 < cLine := by omega
  intro σ0 H0 S00 D q'
  obtain ⟨v0, hv0, a0⟩ := S00.at_ 0 (.l (os.map eS)) rfl
  have hl0 : σ0.length = 7 := S00.len.symm
  -- columns = [], owner = {}
  refine wss_cons (ws_setW 1 sc_62.nd (we_lst (wa_nil ⟨by decide, fun q hq => ?_⟩)))
  refine wss_cons (ws_setW 2 sc_62.nd (we_of pe_dnewK fun dw hdw => ?_))
  have s2 : Same H0 (upd (upd H0 q (.lst [])) dw (.dK [])) := (same_new hq).trans (same_new hdw)
  have hqd : q ≠ dw := ne_of_none (H := upd H0 q (.lst [])) upd_same hdw
  have hq2 : upd (upd H0 q (.lst [])) dw (.dK []) q = some (.lst ([].map V.ref)) := by rw [upd_ne hqd, upd_same]; rfl
  have hd2 : upd (upd H0 q (.lst [])) dw (.dK []) dw = some (.dK (encK (encF []))) := upd_same
  have ndw : H0 dw = none := (same_new (o := .lst []) hq).free hdw
  generalize upd (upd H0 q (.lst [])) dw (.dK []) = H2 at s2 hq2 hd2
  have k7 : ((σ0.set 1 (some (V.ref q))).set 2 (some (.ref dw))).length = 7 := by simp [hl0]
  have k0 : ((σ0.set 1 (some (V.ref q))).set 2 (some (.ref dw)))[0]? = some (some v0) := by rw [List.getElem?_set_ne (by decide), List.getElem?_set_ne (by decide)]; exact hv0
  have k1 : ((σ0.set 1 (some (V.ref q))).set 2 (some (.ref dw)))[1]? = some (some (V.ref q)) := by rw [List.getElem?_set_ne (by decide)]; exact List.getElem?_set_self (by omega)
  have k2 : ((σ0.set 1 (some (V.ref q))).set 2 (some (.ref dw)))[2]? = some (some (V.ref dw)) := List.getElem?_set_self (by simp [hl0])
  generalize (σ0.set 1 (some (V.ref q))).set 2 (some (.ref dw)) = σ2 at k7 k0 k1 k2
  -- slots
  have SL : ∀ (H' : Hp) (σ : L2.St) (cols : List (List Int)) (fl : List (Nat × Nat)), Same H0 H' → σ.length = 7 → σ[0]? = some (some v0) → σ[1]? = some (some (V.ref q)) → σ[2]? = some (some (V.ref dw)) → CL H' q cols → H' dw = some (.dK (encK (encF fl))) → Sl H' σ [some (.l (os.map eS)), some (clR q cols), some (.k (encF fl)), none, none, none, none] := fun H' σ cols fl s' hl h0 h1 h2 hc hd => ⟨hl.symm, fun i r z => by
    match i with
    | 0 => cases z; exact ⟨_, h0, a0.mono s'⟩
    | 1 => cases z; exact ⟨_, h1, rfl, hc⟩
    | 2 => cases z; exact ⟨_, h2, dw, rfl, .inl hd⟩
    | 3 => cases z
    | 4 => cases z
    | 5 => cases z
    | 6 => cases z
    | i + 7 => cases z⟩
  -- for place in range(len(order))
  refine wss_cons (ws_for (g := gName 3) (Iq := fun _ => False) (srcS_rng1 M (SL H2 σ2 [] [] s2 k7 k0 k1 k2 ⟨[], hq2, .nil⟩ hd2) (pu_lenL M (pu_var 0)) (by simp; omega)) (pg_name sc_62.nd rfl (Or.inl rfl)) fun pq H3 s3 hpq => ?_)
  have hpn : pq = none := by
    cases pq with
    | none => rfl
    | some x => exact absurd (hpq x rfl).1 id
  subst hpn
  refine ⟨fun p σ' H' => σ'.length = 7 ∧ σ'[0]? = some (some v0) ∧ σ'[1]? = some (some (V.ref q)) ∧ σ'[2]? = some (some (V.ref dw)) ∧ Same H0 H' ∧ Tx H3 H' ∧ ∃ (cols : List (List Int)) (fl : List (Nat × Nat)) (qs : List Addr), H' q = some (.lst (qs.map V.ref)) ∧ Paired (fun a c => Ls H' a (c.map .int)) qs cols ∧ q ∉ qs ∧ H' dw = some (.dK (encK (encF fl))) ∧ LC os cols fl ∧ cols.length = p, ⟨k7, k0, k1, k2, s2.trans s3, .refl _, [], [], [], s3 _ _ hq2, .nil, by simp, s3 _ _ hd2, LC.nil os, rfl⟩, fun p σ' H' _ hP => ⟨hP.2.2.2.2.2.1, fun x e => nomatch e⟩, fun p dd σ' H' x H4 hdd hP s4 im => ?_, fun σ' H' hP => ?_⟩
  · obtain ⟨g7, g0, g1, g2, gs, gt, cols, fl, qs, hqs, hpr, hnq, hdw', LCp, hlp⟩ := hP
    have hp : p < os.length := by
      have := (List.getElem?_eq_some_iff.mp hdd).1
      rw [rngD_len] at this; simpa using this
    rw [rngD_at (by simpa using hp)] at hdd
    cases hdd
    have ex : x = V.int (p : Nat) := by
      have e0 : (0 : Int) + (p : Nat) = (p : Nat) := by omega
      rw [e0] at im
      cases im; rfl
    subst ex
    show WSs _ _ _ (σ'.set 3 (some (V.int (p : Nat)))) H4
    have j7 : (σ'.set 3 (some (V.int (p : Nat)))).length = 7 := by rw [List.length_set]; exact g7
    have j0 : (σ'.set 3 (some (V.int (p : Nat))))[0]? = some (some v0) := by rw [List.getElem?_set_ne (by decide)]; exact g0
    have j1 : (σ'.set 3 (some (V.int (p : Nat))))[1]? = some (some (V.ref q)) := by rw [List.getElem?_set_ne (by decide)]; exact g1
    have j2 : (σ'.set 3 (some (V.int (p : Nat))))[2]? = some (some (V.ref dw)) := by rw [List.getElem?_set_ne (by decide)]; exact g2
    have j3 : (σ'.set 3 (some (V.int (p : Nat))))[3]? = some (some (V.int (p : Nat))) := List.getElem?_set_self (by omega)
    generalize σ'.set 3 (some (V.int (p : Nat))) = σ3 at j7 j0 j1 j2 j3
    have gs4 := gs.trans s4
    have cl4 : CL H4 q cols := CL.mono ⟨qs, hqs, hpr⟩ s4
    obtain ⟨t, ht⟩ : ∃ t, os[p]? = some t := ⟨_, List.getElem?_eq_getElem hp⟩
    have htm := List.mem_of_getElem? ht
    have hfin : ∀ f ∈ fc t, f ∈ os := fun f hf => List.mem_of_mem_take (O.fb p t ht f hf)
    have hltp : ∀ f ∈ fc t, os.idxOf f < p := fun f hf => idx_take (O.fb p t ht f hf)
    have S4 := (SL H4 σ3 cols fl gs4 j7 j0 j1 j2 cl4 (s4 _ _ hdw')).add 3 (r := .d (.int (p : Nat))) j3 (.int _)
    -- column = [order.index(face) for face in ..]
    refine wss_cons (ws_setLc 4 S4 ((lcd1a (xs := lf t) (enc := eS) ["_law_order", "_law_columns", "_law_owner", "_law_place", "_law_column", "_law_turn", "_law_face"] (defScope (top 62)) 6 (fun f => .int (ix os f)) (src_list (pun_call DF.df hr (pua_cons (pu_ixL (pu_var 0) (pu_var 3) (atI_nat' (n := p) (by rw [List.getElem?_map, ht]; rfl) rfl)) pua_nil) ⟨t, O.sx t htm, rfl, rfl⟩).pu) sc_62.nd (by unfold lf; rw [List.length_reverse]; have := fc_len (s := t); omega)
      (fun f hf _ _ _ _ _ => pu_indexS hu (pu_var 0) (pu_var 6) (hfin f (by unfold lf at hf; simpa using hf)))).to (ds' := ((lf t).map (ix os)).map .int) (by rw [List.map_map]; rfl)) fun c0 H5 n5 s5 l5 => ?_)
    have col0 : ((lf t).map (ix os)).Nodup ∧ (∀ x ∈ (lf t).map (ix os), 0 ≤ x ∧ x < os.length) ∧ vc ((lf t).map (ix os)) = DN os p := by
      have hperm : ((lf t).map (ix os)).Perm ((fc t).map (ix os)) := (List.reverse_perm _).map _
      refine ⟨hperm.nodup_iff.mpr (bd_nodup (O.sx t htm) hfin), fun x hx => ?_, ?_⟩
      · obtain ⟨f, hf, rfl⟩ := List.mem_map.mp (hperm.mem_iff.mp hx)
        have := hltp f hf
        unfold ix; omega
      · funext x
        show decide (x ∈ _) = decide (x ∈ bd os (os.getD ((p : Nat) : Int).toNat []))
        have e1 : os.getD ((p : Nat) : Int).toNat [] = t := by simp only [Int.toNat_natCast]; exact getD_of ht
        rw [e1]
        have e2 : (x ∈ (lf t).map (ix os)) ↔ x ∈ bd os t := by
          rw [hperm.mem_iff]; unfold bd; rw [(List.mergeSort_perm _ _).mem_iff]
        simp [e2]
    have i7 : (σ3.set 4 (some (V.ref c0))).length = 7 := by rw [List.length_set]; exact j7
    have i0 : (σ3.set 4 (some (V.ref c0)))[0]? = some (some v0) := by rw [List.getElem?_set_ne (by decide)]; exact j0
    have i1 : (σ3.set 4 (some (V.ref c0)))[1]? = some (some (V.ref q)) := by rw [List.getElem?_set_ne (by decide)]; exact j1
    have i2 : (σ3.set 4 (some (V.ref c0)))[2]? = some (some (V.ref dw)) := by rw [List.getElem?_set_ne (by decide)]; exact j2
    have i3 : (σ3.set 4 (some (V.ref c0)))[3]? = some (some (V.int (p : Nat))) := by rw [List.getElem?_set_ne (by decide)]; exact j3
    have i4 : (σ3.set 4 (some (V.ref c0)))[4]? = some (some (V.ref c0)) := List.getElem?_set_self (by omega)
    generalize σ3.set 4 (some (V.ref c0)) = σ4 at i7 i0 i1 i2 i3 i4
    have gs5 := gs4.trans s5
    have cl5 := cl4.mono s5
    have hd5 := s5 _ _ (s4 _ _ hdw')
    have hq5 := s5 _ _ (s4 _ _ hqs)
    have ne0 : c0 ≠ q := fun z => by subst z; rw [s4 _ _ hqs] at n5; cases n5
    -- for turn in range(len(order))
    refine wss_cons (ws_for (g := gName 5) (Iq := fun _ => False) (srcS_rng1 M (SL H5 σ4 cols fl gs5 i7 i0 i1 i2 cl5 hd5) (pu_lenL M (pu_var 0)) (by simp; omega)) (pg_name sc_62.nd rfl (Or.inl rfl)) fun pq H6 s6 hpq => ?_)
    have hpn : pq = none := by
      cases pq with
      | none => rfl
      | some x => exact absurd (hpq x rfl).1 id
    subst hpn
    have elen : (rngD 0 ((os.map eS).length : Int).toNat).length = os.length := by rw [rngD_len]; simp
    refine ⟨fun t' σ' H' => σ'.length = 7 ∧ σ'[0]? = some (some v0) ∧ σ'[1]? = some (some (V.ref q)) ∧ σ'[2]? = some (some (V.ref dw)) ∧ σ'[3]? = some (some (V.int (p : Nat))) ∧ Same H6 H' ∧ ∃ (c : List Int) (ca : Addr), σ'[4]? = some (some (V.ref ca)) ∧ ca ≠ q ∧ Ls H' ca (c.map .int) ∧ c.Nodup ∧ (∀ x ∈ c, 0 ≤ x ∧ x < os.length) ∧ Spn (DN os) p (vx (vc c) (DN os p)) ∧ ((∀ m' : Nat, Low (vc c) (m' : Int) → lkF fl m' = none) ∨ ∀ x ∈ c, x < (os.length : Int) - (t' : Nat)), ⟨i7, i0, i1, i2, i3, .refl _, (lf t).map (ix os), c0, i4, ne0, l5.mono s6, col0.1, col0.2.1, by rw [col0.2.2, vx_self]; exact .zero, .inr fun x hx => by have := col0.2.1 x hx; omega⟩, fun t' σ' H' _ hP => .of hP.2.2.2.2.2.1, fun t' dd σ' H' x H7 hdd hP s7 im => ?_, fun σe He hP => ?_⟩
    · obtain ⟨h7, h0, h1, h2, h3, hs, c, ca, h4, hca, lca, cnd, cbd, csp, cm⟩ := hP
      show WSs _ _ _ (σ'.set 5 (some x)) H7
      have m7 : (σ'.set 5 (some x)).length = 7 := by rw [List.length_set]; exact h7
      have m0 : (σ'.set 5 (some x))[0]? = some (some v0) := by rw [List.getElem?_set_ne (by decide)]; exact h0
      have m1 : (σ'.set 5 (some x))[1]? = some (some (V.ref q)) := by rw [List.getElem?_set_ne (by decide)]; exact h1
      have m2 : (σ'.set 5 (some x))[2]? = some (some (V.ref dw)) := by rw [List.getElem?_set_ne (by decide)]; exact h2
      have m3 : (σ'.set 5 (some x))[3]? = some (some (V.int (p : Nat))) := by rw [List.getElem?_set_ne (by decide)]; exact h3
      have m4 : (σ'.set 5 (some x))[4]? = some (some (V.ref ca)) := by rw [List.getElem?_set_ne (by decide)]; exact h4
      generalize σ'.set 5 (some x) = σ5 at m7 m0 m1 m2 m3 m4
      have s57 := (s6.trans hs).trans s7
      have gs7 := gs5.trans s57
      have S7 := ((SL H7 σ5 cols fl gs7 m7 m0 m1 m2 (cl5.mono s57) (s57 _ _ hd5)).add 4 (r := .l (c.map .int)) m4 ⟨ca, rfl, lca.mono s7⟩)
      have s67 := hs.trans s7
      -- behind: nothing changed
      have stay : ∀ H8, Same H7 H8 → ((∀ m' : Nat, Low (vc c) (m' : Int) → lkF fl m' = none) ∨ ∀ x ∈ c, x < (os.length : Int) - ((t' + 1 : Nat) : Int)) → (σ5.length = 7 ∧ σ5[0]? = some (some v0) ∧ σ5[1]? = some (some (V.ref q)) ∧ σ5[2]? = some (some (V.ref dw)) ∧ σ5[3]? = some (some (V.int (p : Nat))) ∧ Same H6 H8 ∧ ∃ (c : List Int) (ca : Addr), σ5[4]? = some (some (V.ref ca)) ∧ ca ≠ q ∧ Ls H8 ca (c.map .int) ∧ c.Nodup ∧ (∀ x ∈ c, 0 ≤ x ∧ x < os.length) ∧ Spn (DN os) p (vx (vc c) (DN os p)) ∧ ((∀ m' : Nat, Low (vc c) (m' : Int) → lkF fl m' = none) ∨ ∀ x ∈ c, x < (os.length : Int) - ((t' + 1 : Nat) : Int))) := fun H8 s8 hm => ⟨m7, m0, m1, m2, m3, s67.trans s8, c, ca, m4, hca, (lca.mono s7).mono s8, cnd, cbd, csp, hm⟩
      by_cases hc : c = []
      · subst hc
        refine wss_one (ws_ifN S7 ((PuB.t (pub_and (c := false) (d := true) ((put_cmp op_gt rv_gt (by rfl) (pu_lenL M (pu_var 4)) pu_int).to (by simp)) fun h => nomatch h)).to rfl) fun H8 s8 => stay H8 s8 (.inr fun x hx => nomatch hx))
      · obtain ⟨mx, hmx, hle⟩ := max_ex hc
        obtain ⟨m', rfl⟩ := Int.eq_ofNat_of_zero_le (cbd mx hmx).1
        have hlow := low_max hmx hle
        have hpos : decide ((0 : Int) < ((c.map PyData.int).length : Nat)) = true := by
          have := List.length_pos_of_mem hmx
          simp; exact this
        refine wss_one (ws_if (b := (oI (lkF fl m')).isSome) S7 ((PuB.t (pub_and (c := true) ((put_cmp op_gt rv_gt (by rfl) (pu_lenL M (pu_var 4)) pu_int).to hpos) fun _ => pub_and1 ((put_inKN (o := some ((m' : Nat) : Int)) hu1 (pu_max M rfl (pu_var 4) hmx hle) (pu_var 2)).to (by
          have : (some ((m' : Nat) : Int)).bind (lkK (encF fl)) = oI (lkF fl m') := lkK_encF fl m'
          rw [this])))).to (by simp)) (fun hb H8 s8 => ?_) fun hb H8 s8 => wss_nil (stay H8 s8 (.inl fun m2 hm2 => ?_)))
        · cases ef : lkF fl m' with
          | none => rw [ef] at hb; simp [oI] at hb
          | some j =>
            obtain ⟨cj, hcj, hlj⟩ := (LCp.rp m' j).mp ef
            have hjc := (List.getElem?_eq_some_iff.mp hcj).1
            have S8 := S7.mono s8
            have hlk : lkK (encF fl) ((m' : Nat) : Int) = some (j : Int) := by
              have : lkK (encF fl) ((m' : Nat) : Int) = oI (lkF fl m') := lkK_encF fl m'
              rw [this, ef]; rfl
            have cjm := List.mem_of_getElem? hcj
            have clen : ∀ (c : List Int), c.Nodup → (∀ x ∈ c, 0 ≤ x ∧ x < os.length) → c.length ≤ 10000 := fun c hn hb => by
              have h1 := asc_len (asc_sort hn) (N := os.length) fun x hx => hb x ((List.mergeSort_perm _ _).mem_iff.mp hx)
              rw [List.length_mergeSort] at h1
              omega
            refine wss_one (ws_setN 4 sc_62.nd S8 (pun_call DS.df hr (pua_cons (pu_var 4) (pua_cons (pu_cl (pu_var 1) (pu_getK hu1 (pu_var 2) (pu_max M rfl (pu_var 4) hmx hle) hlk) hcj rfl) pua_nil)) ⟨c, cj, rfl, clen c cnd cbd, clen cj (LCp.nd cj cjm) (LCp.bd cj cjm), rfl⟩) fun ca2 H9 n9 s9 l9 => ?_)
            have ne9 : ca2 ≠ q := fun z => by
              subst z
              have := (s57.trans s8) _ _ hq5
              rw [n9] at this; cases this
            refine ⟨by rw [List.length_set]; exact m7, by rw [List.getElem?_set_ne (by decide)]; exact m0, by rw [List.getElem?_set_ne (by decide)]; exact m1, by rw [List.getElem?_set_ne (by decide)]; exact m2, by rw [List.getElem?_set_ne (by decide)]; exact m3, (s67.trans s8).trans s9, symd c cj, ca2, List.getElem?_set_self (by omega), ne9, l9, symd_nodup cnd (LCp.nd cj cjm), fun x hx => ?_, ?_, .inr fun x hx => ?_⟩
            · rcases mem_symd.mp hx with z | z
              · exact cbd x z.1
              · exact LCp.bd cj cjm x z.1
            · have h1 : Spn (DN os) p (vc cj) := by
                have h2 := (LCp.rd j cj hcj).mono (k := p) (by omega)
                have h3 := h2.xor (Spn.one (D := DN os) (j := p) (i := j) (by omega))
                rwa [vx_cancel] at h3
              have e1 : vx (vc (symd c cj)) (DN os p) = vx (vx (vc c) (DN os p)) (vc cj) := by rw [vc_symd, vx_assoc, vx_assoc, vx_comm (vc cj)]
              rw [e1]
              exact csp.xor h1
            · have hm1 : ((m' : Nat) : Int) ∈ cj := by simpa [vc] using hlj.1
              have hlt : x < ((m' : Nat) : Int) := by
                rcases mem_symd.mp hx with z | z
                · have := hle x z.1
                  have hne : x ≠ ((m' : Nat) : Int) := fun e => z.2 (by rw [e]; exact hm1)
                  have e0 : Int.ofNat m' = ((m' : Nat) : Int) := rfl
                  omega
                · have := hlj.2 x (by simp [vc, z.1])
                  have hne : x ≠ ((m' : Nat) : Int) := fun e => z.2 (by rw [e]; exact hmx)
                  omega
              rcases cm with z | z
              · have := z m' hlow
                rw [ef] at this; cases this
              · have := z _ hmx
                have e0 : Int.ofNat m' = ((m' : Nat) : Int) := rfl
                omega
        · have := hlow.uniq hm2
          have e0 : m' = m2 := by
            have e1 : Int.ofNat m' = ((m' : Nat) : Int) := rfl
            omega
          rw [← e0]
          cases ef : lkF fl m' with
          | none => rfl
          | some j => rw [ef] at hb; simp [oI] at hb
    · obtain ⟨h7, h0, h1, h2, h3, hs, c, ca, h4, hca, lca, cnd, cbd, csp, cm⟩ := hP
      rw [elen] at cm
      have hred : ∀ m' : Nat, Low (vc c) (m' : Int) → lkF fl m' = none := by
        rcases cm with z | z
        · exact z
        · intro m' hm'
          have hmem : (m' : Int) ∈ c := by simpa [vc] using hm'.1
          have := z _ hmem
          omega
      have s56 := s6.trans hs
      have gs6 := gs5.trans s56
      have hq6 := s56 _ _ hq5
      have hd6 := s56 _ _ hd5
      have hpr6 : Paired (fun a c => Ls He a (c.map .int)) qs cols := Paired.mapP hpr (fun a c z => ((z.mono s4).mono s5).mono s56)
      -- columns.append(column)
      refine wss_cons (we_append (we_name 1 h1 ⟨q, rfl, ⟨_, hq6⟩, we_name 4 h4 ⟨qs.map V.ref, hq6, ?_, ?_⟩⟩))
      · rw [List.length_map, Paired.length hpr, hlp]; exact Nat.lt_of_le_of_lt (show p ≤ 60 by omega) (by decide)
      have gs8 : Same H0 (upd He q (.lst (qs.map V.ref ++ [V.ref ca]))) := fun a o e => by rw [upd_ne (ne_of_none e hq)]; exact gs6 a o e
      have tx8 : Tx He (upd He q (.lst (qs.map V.ref ++ [V.ref ca]))) := .mut hq6 fun _ z => nomatch z
      have off : ∀ {a : Addr} {ds : List PyData}, a ≠ q → Ls He a ds → Ls (upd He q (.lst (qs.map V.ref ++ [V.ref ca]))) a ds := fun hn ⟨us, e1, e2⟩ => ⟨us, by rw [upd_ne hn]; exact e1, e2.mono tx8⟩
      have hq8 : upd He q (.lst (qs.map V.ref ++ [V.ref ca])) q = some (.lst ((qs ++ [ca]).map V.ref)) := by rw [upd_same, List.map_append]; rfl
      have hpr8 : Paired (fun a c => Ls (upd He q (.lst (qs.map V.ref ++ [V.ref ca]))) a (c.map .int)) (qs ++ [ca]) (cols ++ [c]) := by
        refine paired_append ?_ (.cons (off hca lca) .nil)
        have : ∀ {as : List Addr} {ls : List (List Int)}, Paired (fun a c => Ls He a (c.map .int)) as ls → q ∉ as → Paired (fun a c => Ls (upd He q (.lst (qs.map V.ref ++ [V.ref ca]))) a (c.map .int)) as ls := by
          intro as ls h
          induction h with
          | nil => intro _; exact .nil
          | cons a b ih =>
            intro hm
            simp at hm
            exact .cons (off (fun z => hm.1 z.symm) a) (ih hm.2)
        exact this hpr6 hnq
      have hd8 : upd He q (.lst (qs.map V.ref ++ [V.ref ca])) dw = some (.dK (encK (encF fl))) := by rw [upd_ne hqd.symm]; exact hd6
      have lc8 := off hca lca
      have t48 : Tx H3 (upd He q (.lst (qs.map V.ref ++ [V.ref ca]))) := ((gt.trans (.of s4)).trans ((Tx.of s5).trans (.of s56))).trans tx8
      generalize upd He q (.lst (qs.map V.ref ++ [V.ref ca])) = H8 at gs8 hq8 hpr8 hd8 lc8 t48
      have hnq8 : q ∉ qs ++ [ca] := by
        intro m
        rcases List.mem_append.mp m with z | z
        · exact hnq z
        · exact hca (List.mem_singleton.mp z).symm
      have S8 := ((SL H8 σe (cols ++ [c]) fl gs8 h7 h0 h1 h2 ⟨_, hq8, hpr8⟩ hd8).add 3 (r := .d (.int (p : Nat))) h3 (.int _)).add 4 (r := .l (c.map .int)) h4 ⟨ca, rfl, lc8⟩
      have hsp : Spn (DN os) cols.length (vx (vc c) (DN os cols.length)) := by rw [hlp]; exact csp
      have hfl := LCp.fln
      by_cases hc : c = []
      · subst hc
        refine wss_one (ws_ifN S8 ((put_cmp op_gt rv_gt (by rfl) (pu_lenL M (pu_var 4)) pu_int).to (by simp)) fun H9 s9 => ?_)
        refine ⟨h7, h0, h1, h2, gs8.trans s9, t48.trans (.of s9), cols ++ [[]], fl, qs ++ [ca], s9 _ _ hq8, Paired.mapP hpr8 (fun a c z => z.mono s9), hnq8, s9 _ _ hd8, LCp.snoc cnd cbd hsp (by omega) (fun l j => ⟨fun z => .inl z, fun z => ?_⟩), by simp [hlp]⟩
        rcases z with z | ⟨_, z⟩
        · exact z
        · have := z.1; simp [vc] at this
      · obtain ⟨mx, hmx, hle⟩ := max_ex hc
        obtain ⟨m', rfl⟩ := Int.eq_ofNat_of_zero_le (cbd mx hmx).1
        have hlow : Low (vc c) ((m' : Nat) : Int) := low_max hmx hle
        have hno := hred m' hlow
        have hpos : decide ((0 : Int) < ((c.map PyData.int).length : Nat)) = true := by
          have := List.length_pos_of_mem hmx
          simp; exact this
        refine wss_one (ws_if (b := true) S8 ((put_cmp op_gt rv_gt (by rfl) (pu_lenL M (pu_var 4)) pu_int).to hpos) (fun _ H9 s9 => ?_) fun h => nomatch h)
        refine wss_one (ws_putD hu1 (we_pu (S8.mono s9) (pu_var 3) fun v10 H10 s10 a10 => we_name 2 h2 (we_pu ((S8.mono s9).mono s10) (pu_max M rfl (pu_var 4) hmx hle) fun v11 H11 s11 a11 => ?_)))
        cases a10; cases a11
        have s811 := (s9.trans s10).trans s11
        have hd11 := s811 _ _ hd8
        refine ⟨dw, upd H11 dw (.dK (putK (encK (encF fl)) (Sum.inl (m' : Int)) (V.int (p : Nat)))), rfl, DPut.k (k := Sum.inl (m' : Int)) hd11 ?_, ?_⟩
        · have e : (encK (encF fl)).length = fl.length := by simp [encK, encF]
          rw [e]
          exact Nat.lt_of_le_of_lt (show fl.length ≤ 60 by omega) (by decide)
        rw [putK_F hno]
        have tx12 : Tx H11 (upd H11 dw (.dK (encK (encF (fl ++ [(m', p)]))))) := .mut hd11 fun _ z => nomatch z
        refine ⟨h7, h0, h1, h2, fun a o e => by rw [upd_ne (ne_of_none e ndw)]; exact s811 a o (gs8 a o e), (t48.trans (.of s811)).trans tx12, cols ++ [c], fl ++ [(m', p)], qs ++ [ca], by rw [upd_ne hqd]; exact s811 _ _ hq8, Paired.mapP hpr8 (fun a c z => ?_), hnq8, upd_same, LCp.snoc cnd cbd hsp (by simp; omega) (fun l j => ?_), by simp [hlp]⟩
        · obtain ⟨us, e1, e2⟩ := z.mono s811
          exact ⟨us, by rw [upd_ne (ne_of e1 hd11 fun z => nomatch z)]; exact e1, e2.mono tx12⟩
        · rw [lkF_append hno]
          by_cases e : l = m'
          · subst e
            rw [if_pos rfl]
            constructor
            · intro z
              cases z
              exact .inr ⟨hlp.symm, hlow⟩
            · rintro (z | ⟨z, _⟩)
              · rw [hno] at z; cases z
              · rw [z, hlp]
          · rw [if_neg e]
            constructor
            · exact fun z => .inl z
            · rintro (z | ⟨_, z⟩)
              · exact z
              · exact absurd (by have := hlow.uniq z; omega) e
  · obtain ⟨g7, g0, g1, g2, gs, gt, cols, fl, qs, hqs, hpr, hnq, hdw', LCp, hlp⟩ := hP
    have elen : (rngD 0 ((os.map eS).length : Int).toNat).length = os.length := by rw [rngD_len]; simp
    rw [elen] at hlp
    have S9 := SL H' σ' cols fl gs g7 g0 g1 g2 ⟨qs, hqs, hpr⟩ hdw'
    refine wss_one (ws_retN S9 (((lcd1 (xs := List.range os.length) (enc := fun i => PyData.int (0 + (i : Nat))) ["_law_order", "_law_columns", "_law_owner", "_law_place", "_law_column", "_law_turn", "_law_face"] (defScope (top 62)) 3 (fun n => decide (cols.getD n [] = [])) (fun n => eP (n, lkF fl n)) ((src_rng1 M (pu_lenL M (pu_var 0)) (by simp; omega)).to (by unfold rngD; simp)) sc_62.nd (by simp; omega) (fun n hn _ _ _ _ _ => .one ?_) (fun n hn _ _ _ _ _ _ => ?_))).pun.to ?_) fun p' H2' n2 s2' l2' => q' p' H2' (gs.free n2) (gs.trans s2') l2')
    · rw [List.mem_range] at hn
      have hcn : cols[n]? = some (cols.getD n []) := by rw [List.getD_eq_getElem?_getD, List.getElem?_eq_getElem (by omega)]; rfl
      have sh : ∀ c : List Int, SeqAt.shaped (.list (c.map .int)) = true := fun c => (gd_lst (n := 0) fun d hd => by
        obtain ⟨i, _, rfl⟩ := List.mem_map.mp hd
        exact gd_int i).shaped (by decide)
      refine (put_cmp (op_eqD hu64) (rv_eqL (sh _) (sh [])) (by rfl) (pu_cl (pu_var 1) (pu_var 3) hcn (by omega)) (pun_lst (ds := []) pua_nil).pu).to ?_
      have e1 : PyData.eqv (.list ((cols.getD n []).map .int)) (.list (([] : List Int).map .int)) = PyData.eqvAll ((cols.getD n []).map .int) (([] : List Int).map .int) := by simp only [PyData.eqv]
      rw [e1, PySem.W.ked_eqvAll]
    · exact (pu_tup (ds := [.int (0 + (n : Nat)), oD (lkK (encF fl) (0 + (n : Nat)))]) (pua_cons (pu_var 3) (pua_cons (pu_get2N hu1 (pu_var 2) (pu_var 3) pu_non) pua_nil)) (by simp)).to (by
        have e0 : (0 : Int) + (n : Nat) = (n : Nat) := by omega
        rw [e0, lkK_encF]; rfl)
    · rw [← lc_pairs LCp KVh O RPh hlp, List.map_map]; rfl
end
end K47
/-! P17: _law_bars -/
namespace K47
open PySem PySem.Spec PyProof.Rows L2
open PySem.W (EachIs AllAlike Sortable dataLe dataLt alike alikeAll keyToks keyToksAll)
def rowB (b : Bar) : PyData := .tuple [.int b.1, .int b.2.1, .int (if b.2.2.isNone then 1 else 0), .int (b.2.2.getD 0)]
theorem rowB_toks (b : Bar) : keyToks (rowB b) = keyToks (kB b) := by
  unfold rowB kB
  simp only [keyToks, keyToksAll]
theorem leB_row : dataLe false rowB = leB := by
  unfold leB
  funext a b
  show (!dataLt (rowB b) (rowB a)) = (!dataLt (kB b) (kB a))
  unfold dataLt
  rw [rowB_toks, rowB_toks]
theorem gd_rowB (p : Bar) : Gd 2 (rowB p) := gdd_tup fun d hd => by
  simp only [List.mem_cons, List.not_mem_nil, or_false] at hd
  rcases hd with rfl | rfl | rfl | rfl <;> exact gd_int _
theorem rowB_alike (l : List Bar) : AllAlike (l.map rowB) := fun d hd d' hd' => by
  obtain ⟨p, _, rfl⟩ := List.mem_map.mp hd
  obtain ⟨q, _, rfl⟩ := List.mem_map.mp hd'
  simp [rowB, alike, alikeAll]
theorem rowB_sortable (l : List Bar) : Sortable (l.map rowB) := .inl fun d hd => by
  obtain ⟨p, _, rfl⟩ := List.mem_map.mp hd
  exact ⟨_, _, rfl⟩
section
variable {P : Program} {w : World} {K : PySem.W.Frag} {mg : Str → Option Value} {base : Heap}
def rLB : List Rs → List PyData → Prop := fun as r => ∃ (l : List Itm) (cs bs : List (List Int)) (fl : List (Nat × Nat)), as = [.l (l.map eTI)] ∧ VS l ∧ gr l = l ∧ KV (ordOf l) cs bs ∧ RP bs fl (ordOf l).length ∧ r = ((barsOf l (pairsOf bs fl)).mergeSort leB).map eB
theorem sc_66 : FnScope ["_law_shape_here", "_law_items", "_law_rows", "_law_birth", "_law_death", "_law_simplex", "_law_height", "_law_size", "_law_endless", "_law_end"] ["_law_shape_here"] (defScope (top 66)) := ⟨rfl, rfl, rfl, by decide +kernel, rfl, by decide +kernel, by decide +kernel⟩
theorem ok_lbars (M : Mg mg) (S : Stands K mg "_law_bars" 66) (DG : Df0 P w K mg base "_law_grown" 1 (spN rLGr)) (DP : Df0 P w K mg base "_law_pairs" 2 (spN rLP)) : Df0 P w K mg base "_law_bars" 3 (spN rLB) := by
  refine mk_pun S sc_66 (fun as r h => by obtain ⟨l, _, _, _, rfl, _⟩ := h; rfl) (fun _ _ _ _ _ _ us hl => match us, hl with | [_], _ => rfl) fun f cdv A outer s H E hr as r h => ?_
  obtain ⟨l, cs, bs, fl, rfl, VV, hst, KVh, RPh, rfl⟩ := h
  have hu : (A.deeper (envOfC "_law_bars" (defScope (top 66)) s.heap.objs.size f cdv)).units + 100 < cLine := by have := hr.un; omega
  have hlen := VV.len
  have hol : (ordOf l).length = l.length := by unfold ordOf; rw [List.length_map]
  have hbl : bs.length = (ordOf l).length := KVh.lb
  have hp := pairs_ok RPh hbl
  rw [hol] at hp
  have hpl : (pairsOf bs fl).length ≤ 1000 := by
    unfold pairsOf
    rw [List.length_map]
    exact Nat.le_trans (births_len bs) (by omega)
  intro σ H0 S00 D' q'
  have hσ : σ.length = 10 := S00.len.symm
  refine wss_cons (ws_setN 1 sc_66.nd S00 (pun_call DG.df (hr.mono (by decide)) (pua_cons (pu_var 0) pua_nil) ⟨l, by omega, rfl, rfl⟩) fun ai H1 n1 s1 l1 => ?_)
  rw [hst] at l1
  have S1 := (S00.mono s1).set 1 (r := .l (l.map eTI)) ⟨ai, rfl, l1⟩
  refine wss_cons (ws_setN 2 sc_66.nd S1 (pun_lst (ds := []) pua_nil) fun q H2 hq s2 l2 => ?_)
  have S0' := (S1.set0 (v := .ref q) 2)
  have hv2 : ((σ.set 1 (some (V.ref ai))).set 2 (some (.ref q)))[2]? = some (some (.ref q)) := List.getElem?_set_self (by simp [hσ])
  have hW : Bare ([some (.l (l.map eTI)), some (.l (l.map eTI)), none, none, none, none, none, none, none, none] : Gm) [3, 4, 5, 6] := bare_of
  refine wss_cons (ws_acc (ds := (pairsOf bs fl).map eP) (Γ0 := [some (.l (l.map eTI)), some (.l (l.map eTI)), none, none, none, none, none, none, none, none]) (q := q) (g := g2 K 3 4) (Iq := fun a => H2 a = none) 2 (fun i => (barsOf l ((pairsOf bs fl).take i)).map rowB) [3, 4, 5, 6]
    (srcS_new (S0'.mono s2) (pun_call DP.df hr (pua_cons (lcd2a (xs := l) (enc := eTI) (own := [("_law_simplex", 5), ("_law_height", 6)]) (g := g2 K 5 6) ["_law_shape_here", "_law_items", "_law_rows", "_law_birth", "_law_death", "_law_simplex", "_law_height", "_law_size", "_law_endless", "_law_end"] (defScope (top 66)) (fun p => [some (.l (l.map eTI)), some (.l (l.map eTI)), none, none, none, some (.d (eS p.1)), some (.d (.int p.2)), none, none, none]) (fun p => eS p.1) (src_list (pu_var 1)) sc_66.nd (by omega)
      (fun _ _ _ _ _ => pg_2 5 6 sc_66.nd) (fun p _ => gd_2) (fun p _ _ _ _ _ _ => pu_var 5)).pun.pu pua_nil) ⟨ordOf l, cs, bs, fl, by unfold ordOf; rw [List.map_map]; rfl, OV_of VV hst, KVh, RPh, rfl⟩)) (fun b hb _ e => ?_) (pg_2 3 4 sc_66.nd) s2 hq S0' hv2 l2 hW (by decide) ?_ ?_)
  · subst e; exact ls_not_none l2 hb
  · intro i d hd σ' H' x sH xH SH hw hf hl im N hN
    rw [List.getElem?_map] at hd
    cases hpi : (pairsOf bs fl)[i]? with
    | none => rw [hpi] at hd; cases hd
    | some pr =>
      rw [hpi] at hd
      cases hd
      have hm : pr ∈ pairsOf bs fl := List.mem_of_getElem? hpi
      obtain ⟨hb1, hb2⟩ := hp pr hm
      have hti : (pairsOf bs fl).take (i + 1) = (pairsOf bs fl).take i ++ [pr] := by
        obtain ⟨h1, h2⟩ := List.getElem?_eq_some_iff.mp hpi
        rw [List.take_succ_eq_append_getElem h1, h2]
      have hlz : ((barsOf l ((pairsOf bs fl).take i)).map rowB).length ≤ 100000 := by
        have h1 := List.length_filter_le (keepB l) ((pairsOf bs fl).take i)
        have h3 : ((pairsOf bs fl).take i).length ≤ (pairsOf bs fl).length := by rw [List.length_take]; omega
        simp only [barsOf, List.length_map]; omega
      refine gd_2 (vs := [3, 4]) (by simp) (by simp) x σ' H' im (SH.mono sH) _ fun σ1 S1 w1 => ?_
      refine wss_cons (ws_asg (vs := [5, 6]) (d := eTI (itm l pr.1)) S1 (pu_ixL (pu_var 1) (pu_var 3) (atI_nat' (itm_at hb1) rfl)) (pg_2 5 6 sc_66.nd) (gd_2 (by simp) (by simp)) fun σ2 H2' s2' S2 w2 => ?_)
      have e0 : wipe σ2 [3, 4, 5, 6] = wipe σ' [3, 4, 5, 6] := by rw [wipe_sub w2 (by simp), wipe_sub w1 (by simp)]
      have hf3 : σ2[2]? = some (some (.ref q)) := by rw [wipe_get e0 (by decide)]; exact hf
      have x3 : SameX q H' H2' := .of s2'
      -- what is appended
      have app1 : ∀ (H3 : Hp), Same H2' H3 → keepB l pr = true → ∀ (H5 : Hp), SameX q H3 H5 → Ls H5 q ((barsOf l ((pairsOf bs fl).take i)).map rowB ++ [rowB (mkB l pr)]) → N σ2 H5 := fun H3 s3 hk H5 x5 l5 => hN _ _ (x3.trans ((SameX.of s3).trans x5)) (by
        rw [hti]
        unfold barsOf at l5 ⊢
        rw [List.filter_append, List.filter_cons_of_pos hk]
        simpa using l5) e0
      have app0 : ∀ (H3 : Hp), Same H2' H3 → keepB l pr = false → N σ2 H3 := fun H3 s3 hk => hN _ _ (x3.trans (.of s3)) (by
        rw [hti]
        unfold barsOf
        have hk' : ¬ keepB l pr = true := by rw [hk]; simp
        rw [List.filter_append, List.filter_cons_of_neg hk']
        simpa [barsOf] using hl.mono (s2'.trans s3)) e0
      cases ed : pr.2 with
      | none =>
        have hend : endOf l pr = none := by unfold endOf; rw [ed]; rfl
        rw [ed] at S2
        refine wss_one (ws_if (b := true) S2 ((put_cmp op_isN rv_isN (by rfl) (pu_var 4) pu_non).to rfl) (fun _ H3 s3 => ?_) fun h => nomatch h)
        exact wss_one (ws_app 2 (d := rowB (mkB l pr)) (S2.mono s3) hf3 (hl.mono (s2'.trans s3)) ((pu_tup (ds := [.int (((itm l pr.1).1.length : Int) - 1), .int (itm l pr.1).2, .int 1, .int 0]) (pua_cons (pu_sub ((pu_lenT M (pu_var 5)).to (by simp)) pu_int) (pua_cons (pu_var 6) (pua_cons pu_int (pua_cons pu_int pua_nil)))) (by simp)).to (by unfold rowB mkB; rw [hend]; rfl)) hlz (app1 H3 s3 (by unfold keepB; rw [hend])))
      | some d =>
        have hend : endOf l pr = some (itm l d).2 := by unfold endOf; rw [ed]; rfl
        have hdl := hb2 d ed
        rw [ed] at S2
        refine wss_one (ws_if (b := false) S2 ((put_cmp op_isN rv_isN (by rfl) (pu_var 4) pu_non).to rfl) (fun h => nomatch h) fun _ H3 s3 => ?_)
        have S3 := S2.mono s3
        refine wss_one (ws_if (b := keepB l pr) S3 ((put_cmp op_gt rv_gt (by rfl) (pu_ixT (pu_ixL (pu_var 1) (pu_var 4) (atI_nat' (itm_at hdl) rfl)) pu_int (atI_nat' (n := 1) (x := PyData.int (itm l d).2) rfl rfl)) (pu_var 6)).to (by unfold keepB; rw [hend])) (fun hk H4 s4 => ?_) fun hk H4 s4 => wss_nil (app0 H4 (s3.trans s4) hk))
        exact wss_one (ws_app 2 (d := rowB (mkB l pr)) (S3.mono s4) hf3 (hl.mono (s2'.trans (s3.trans s4))) ((pu_tup (ds := [.int (((itm l pr.1).1.length : Int) - 1), .int (itm l pr.1).2, .int 0, .int (itm l d).2]) (pua_cons (pu_sub ((pu_lenT M (pu_var 5)).to (by simp)) pu_int) (pua_cons (pu_var 6) (pua_cons pu_int (pua_cons (pu_ixT (pu_ixL (pu_var 1) (pu_var 4) (atI_nat' (itm_at hdl) rfl)) pu_int (atI_nat' (n := 1) (x := PyData.int (itm l d).2) rfl rfl)) pua_nil)))) (by simp)).to (by unfold rowB mkB; rw [hend]; rfl)) hlz (app1 H4 (s3.trans s4) hk))
  · intro σ' H' xH hl hw
    have sH : Same H1 H' := xH.base s2 hq
    have SH : Sl H1 σ' _ := S0'.wiped hw hW
    have hf : σ'[2]? = some (some (.ref q)) := by rw [wipe_get hw (by decide)]; exact hv2
    rw [List.length_map, List.take_length] at hl
    have SH2 := ((SH.mono sH).add 2 (r := .l ((barsOf l (pairsOf bs fl)).map rowB)) hf ⟨q, rfl, hl⟩)
    have hbz : (barsOf l (pairsOf bs fl)).length ≤ 1000 := by
      unfold barsOf
      rw [List.length_map]
      exact Nat.le_trans (List.length_filter_le _ _) hpl
    refine wss_one (ws_retN SH2 ((lcd2a (xs := (barsOf l (pairsOf bs fl)).mergeSort leB) (enc := rowB) (own := [("_law_size", 7), ("_law_height", 6), ("_law_endless", 8), ("_law_end", 9)]) (g := g4 K 7 6 8 9) ["_law_shape_here", "_law_items", "_law_rows", "_law_birth", "_law_death", "_law_simplex", "_law_height", "_law_size", "_law_endless", "_law_end"] (defScope (top 66))
      (fun b => [some (.l (l.map eTI)), some (.l (l.map eTI)), some (.l ((barsOf l (pairsOf bs fl)).map rowB)), none, none, none, some (.d (.int b.2.1)), some (.d (.int b.1)), some (.d (.int (if b.2.2.isNone then 1 else 0))), some (.d (.int (b.2.2.getD 0)))]) eB (src_list (Pu.to (pun_sortedD (β := Bar) (enc := rowB) (bs := barsOf l (pairsOf bs fl)) M hu (pu_var 2) (rowB_alike _) (rowB_sortable _) (fun p _ => by have := (gd_rowB p).2; omega)).pu (by rw [leB_row]))) sc_66.nd (by rw [List.length_mergeSort]; omega)
      (fun _ _ _ _ _ => pg_tup rfl (pgs_cons (pg_name sc_66.nd rfl (Or.inl rfl)) (pgs_cons (pg_name sc_66.nd rfl (Or.inl rfl)) (pgs_cons (pg_name sc_66.nd rfl (Or.inl rfl)) (pgs_cons (pg_name sc_66.nd rfl (Or.inl rfl)) pgs_nil))))) (fun p _ => gd_4) (fun b _ _ _ _ _ _ => ?_)).pun) fun p H3 n3 s3 l3 => q' p H3 ((s1.trans sH).free n3) ((s1.trans sH).trans s3) l3)
    refine (pu_tup (ds := [.int b.1, .int b.2.1, oD b.2.2]) (pua_cons (pu_var 7) (pua_cons (pu_var 6) (pua_cons (pu_ixL (ds := [PyData.int (b.2.2.getD 0), PyData.none]) (d := oD b.2.2) (pun_lst (pua_cons (pu_var 9) (pua_cons pu_non pua_nil))).pu (pu_var 8) ?_) pua_nil))) (by simp)).to rfl
    cases b.2.2 with
    | none => exact atI_nat' (n := 1) rfl rfl
    | some z => exact atI_nat' (n := 0) rfl rfl
end
end K47
/-! P18: _law_are_right -/
namespace K47
open PySem PySem.Spec PyProof.Rows L2
def lowsOf (bs : List (List Int)) (i : Nat) : List Int := (bs.take i).filterMap (·.getLast?)
section
variable {P : Program} {w : World} {K : PySem.W.Frag} {mg : Str → Option Value} {base : Heap}
def rLR : List Rs → Rs → Prop := fun as r => ∃ (os : List Sim) (cs bs : List (List Int)) (fl : List (Nat × Nat)), as = [.l (os.map eS), .l (cs.map eS)] ∧ OV os ∧ KV os cs bs ∧ RP bs fl os.length ∧ r = .d (.bool true)
theorem sc_63 : FnScope ["_law_order", "_law_chains", "_law_lasts", "_law_place", "_law_chain", "_law_bound", "_law_one", "_law_k", "_law_face"] ["_law_order", "_law_chains"] (defScope (top 63)) := ⟨rfl, rfl, rfl, by decide +kernel, rfl, by decide +kernel, by decide +kernel⟩
theorem ok_lright (M : Mg mg) (S : Stands K mg "_law_are_right" 63) (DF : Df0 P w K mg base "_law_faces" 1 (spN rLFac)) (DS : Df0 P w K mg base "_law_sum" 1 (spN rLSum)) : Df0 P w K mg base "_law_are_right" 2 (spU rLR) := by
  refine mk_pu S sc_63 (fun as r h => by obtain ⟨_, _, _, _, rfl, _⟩ := h; rfl) (fun _ _ _ _ _ _ us hl => match us, hl with | [_, _], _ => rfl) fun f cdv A outer s H E hr as r h => ?_
  obtain ⟨os, cs, bs, fl, rfl, O, KVh, R, rfl⟩ := h
  have hu : (A.deeper (envOfC "_law_are_right" (defScope (top 63)) s.heap.objs.size f cdv)).units + 65 < cLine := by have := hr.un; omega
  have hos := O.len
  have hlc := KVh.lc
  have hlb := KVh.lb
  intro σ H0 S00 D' q'
  have hσ : σ.length = 9 := S00.len.symm
  refine wss_cons (ws_ifN S00 ((PuB.t (pub_or (put_not (pu_val (isi_list M (pu_var 1)))) fun _ => pub_or1 (put_cmp op_ne rv_neI (by rfl) (pu_lenL M (pu_var 1)) (pu_lenL M (pu_var 0))))).to (by simp [hlc])) fun H1 s1 => ?_)
  have S1 := S00.mono s1
  refine wss_cons (ws_setN 2 sc_63.nd S1 (pun_lst (ds := []) pua_nil) fun q H2 hq s2 l2 => ?_)
  have S0' := (S1.set0 (v := .ref q) 2)
  have hv2 : (σ.set 2 (some (.ref q)))[2]? = some (some (V.ref q)) := List.getElem?_set_self (by omega)
  have hW : Bare ([some (.l (os.map eS)), some (.l (cs.map eS)), none, none, none, none, none, none, none] : Gm) [3, 4, 5, 6, 7, 8] := bare_of
  refine wss_cons (ws_acc (Γ0 := [some (.l (os.map eS)), some (.l (cs.map eS)), none, none, none, none, none, none, none]) (q := q) (g := gName 3) (Iq := fun _ => False) 2 (fun i => (lowsOf bs i).map .int) [3, 4, 5, 6, 7, 8]
    (srcS_rng1 M (S0'.mono s2) (pu_lenL M (pu_var 0)) (by simp; omega)) (fun b hb _ e => hb) (pg_name sc_63.nd rfl (Or.inr rfl)) s2 hq S0' hv2 (by unfold lowsOf; simpa using l2) hW (by decide) ?_ ?_)
  · intro p d hd σ' H' x sH xH SH hw hf hl im N hN
    have hp : p < os.length := by
      have := (List.getElem?_eq_some_iff.mp hd).1
      rw [rngD_len] at this; simpa using this
    rw [rngD_at (by simpa using hp)] at hd
    cases hd
    have ex : x = V.int (p : Nat) := by
      have e0 : (0 : Int) + (p : Nat) = (p : Nat) := by omega
      rw [e0] at im
      cases im; rfl
    subst ex
    obtain ⟨c, b, hc, hb⟩ := KVh.both hp
    obtain ⟨a1, a2, a3⟩ := KVh.ch p c hc
    obtain ⟨b1, b2⟩ := KVh.bn p b c hb hc
    have hcl := KVh.clen O hc
    have hle := KVh.last_le hc
    have hcne : c ≠ [] := fun z => by rw [z] at a2; simp at a2
    have hin : ∀ i ∈ c, i.toNat < os.length := fun i hi => by have := hle i hi; have := (a3 i hi).1; omega
    obtain ⟨t, ht⟩ : ∃ t, os[p]? = some t := ⟨_, List.getElem?_eq_getElem hp⟩
    have osat : ∀ i ∈ c, (os.map eS)[i.toNat]? = some (eS (os.getD i.toNat [])) := fun i hi => getS (hin i hi)
    show WSs _ _ _ (σ'.set 3 (some (V.int (p : Nat)))) H'
    have S3 := (SH.mono sH).set 3 (r := .d (.int (p : Nat))) (.int (p : Nat))
    have w3 : wipe (σ'.set 3 (some (V.int (p : Nat)))) [3, 4, 5, 6, 7, 8] = wipe σ' [3, 4, 5, 6, 7, 8] := wipe_set (by simp)
    -- chain = chains[place]
    refine wss_cons (ws_set 4 sc_63.nd S3 (pu_ixL (pu_var 1) (pu_var 3) (atI_nat' (n := p) (by rw [List.getElem?_map, hc]; rfl) rfl)) fun v4 H4 s4 a4 => ?_)
    have S4 := (S3.mono s4).set 4 a4
    have w4 : wipe ((σ'.set 3 (some (V.int (p : Nat)))).set 4 (some v4)) [3, 4, 5, 6, 7, 8] = wipe σ' [3, 4, 5, 6, 7, 8] := (wipe_set (by simp)).trans w3
    generalize (σ'.set 3 (some (V.int (p : Nat)))).set 4 (some v4) = σ4 at S4 w4
    have hall : ∀ {α : Type} (xs : List α) (g : α → Bool), (∀ x ∈ xs, g x = true) → (xs.map g).all id = true := fun xs g h => by
      rw [List.all_map, List.all_eq_true]; exact h
    refine wss_cons (ws_ifN S4 ((PuB.t (pub_or (put_not (pu_val (isi_tuple M (pu_var 4)))) fun _ => pub_or1 (put_not (pu_val (pu_all (bs := c.map fun _ => (true && !false)) M rfl ((lcd1a (xs := c) (enc := PyData.int) ["_law_order", "_law_chains", "_law_lasts", "_law_place", "_law_chain", "_law_bound", "_law_one", "_law_k", "_law_face"] (defScope (top 63)) 6 (fun _ => .bool (true && !false)) (src_tup (pu_var 4)) sc_63.nd (by omega)
      (fun i _ _ _ _ _ _ => pu_and (isi_int M (pu_var 6)) fun _ => pu_one (pu_not (isi_bool M (pu_var 6))))).to map_bools).pun.pu))))).to ?_) fun H5 s5 => ?_)
    · rw [hall c (fun _ => (true && !false)) (fun x _ => rfl)]; rfl
    have S5 := S4.mono s5
    obtain ⟨hd0, tl, rfl⟩ : ∃ h0 tl, c = h0 :: tl := by
      cases c with
      | nil => exact absurd rfl hcne
      | cons a b => exact ⟨a, b, rfl⟩
    refine wss_cons (ws_ifN S5 ((PuB.t (pub_or (put_cmp op_eq rv_eqI (by rfl) (pu_lenT M (pu_var 4)) pu_int) fun _ => pub_or (put_cmp op_ne rv_neI (by rfl) (pu_ixT (pu_var 4) (pu_neg pu_int) (atI_last (x := PyData.int (p : Nat)) (by rw [List.getLast?_map, a2]; rfl))) (pu_var 3)) fun _ => pub_or1 (put_cmp op_lt rv_lt (by rfl) (pu_ixT (pu_var 4) pu_int (atI_nat' (n := 0) rfl rfl)) pu_int))).to ?_) fun H6 s6 => ?_)
    · have := (a3 hd0 (by simp)).1
      simp; omega
    have S6 := S5.mono s6
    refine wss_cons (ws_ifN S6 ((put_not (pu_val (pu_all (bs := (List.range ((hd0 :: tl).length - 1)).map fun _ => true) M rfl ((lcd1a (xs := List.range ((hd0 :: tl).length - 1)) (enc := fun i => PyData.int (0 + (i : Nat))) ["_law_order", "_law_chains", "_law_lasts", "_law_place", "_law_chain", "_law_bound", "_law_one", "_law_k", "_law_face"] (defScope (top 63)) 7 (fun _ => .bool true) ((src_rng1 M (pu_sub (pu_lenT M (pu_var 4)) pu_int) (by simp; simp at hcl; omega)).to (by unfold rngD; congr 2; simp)) sc_63.nd (by simp; simp at hcl; omega)
      (fun i hi _ _ _ _ _ => ?_)).to map_bools).pun.pu))).to ?_) fun H7 s7 => ?_)
    · rw [List.mem_range] at hi
      have h1 : (hd0 :: tl)[i]? = some (hd0 :: tl)[i] := List.getElem?_eq_getElem (by omega)
      have h2 : (hd0 :: tl)[i + 1]? = some (hd0 :: tl)[i + 1] := List.getElem?_eq_getElem (by omega)
      have h3 := List.pairwise_iff_getElem.mp a1 i (i + 1) (by omega) (by omega) (by omega)
      exact (pu_cmp op_lt rv_lt (by rfl) (pu_ixT (pu_var 4) (pu_var 7) (atI_nat' (n := i) (by rw [List.getElem?_map, h1]; rfl) (by omega))) (pu_ixT (pu_var 4) (pu_add (pu_var 7) pu_int) (atI_nat' (n := i + 1) (by rw [List.getElem?_map, h2]; rfl) (by omega)))).to (by rw [decide_eq_true h3])
    · rw [hall _ _ (fun x _ => rfl)]; rfl
    have S7 := S6.mono s7
    refine wss_cons (ws_ifN S7 ((put_not (pu_val (pu_all (bs := (hd0 :: tl).map fun _ => true) M rfl ((lcd1a (xs := hd0 :: tl) (enc := PyData.int) ["_law_order", "_law_chains", "_law_lasts", "_law_place", "_law_chain", "_law_bound", "_law_one", "_law_k", "_law_face"] (defScope (top 63)) 6 (fun _ => .bool true) (src_tup (pu_var 4)) sc_63.nd (by omega)
      (fun i hi _ _ _ _ _ => ?_)).to map_bools).pun.pu))).to ?_) fun H8 s8 => ?_)
    · have h1 := (a3 i hi).2
      have h2 : (os.getD i.toNat []).length = (os.getD p []).length := by
        have : dm os ((p : Nat) : Int) = (os.getD p []).length := by unfold dm; simp
        rw [← this, ← h1]; rfl
      exact (pu_cmp op_eq rv_eqI (by rfl) (pu_lenT M (pu_ixL (pu_var 0) (pu_var 6) (atI_nat' (osat i hi) (by have := (a3 i hi).1; omega)))) (pu_lenT M (pu_ixL (pu_var 0) (pu_var 3) (atI_nat' (getS hp) rfl)))).to (by congr 2; simp only [List.length_map, decide_eq_true_eq]; omega)
    · rw [hall _ _ (fun x _ => rfl)]; rfl
    have S8 := S7.mono s8
    -- bound = []
    have s48 : Same H' H8 := ((((s4.trans s5).trans s6).trans s7).trans s8)
    refine wss_cons (ws_setN 5 sc_63.nd S8 (pun_lst (ds := []) pua_nil) fun ba0 H9 n9 s9 l9 => ?_)
    have S9 := (S8.mono s9).set0 (v := .ref ba0) 5
    have w9 : wipe (σ4.set 5 (some (.ref ba0))) [3, 4, 5, 6, 7, 8] = wipe σ' [3, 4, 5, 6, 7, 8] := (wipe_set (by simp)).trans w4
    have l49 : σ4.length = 9 := S8.len.symm
    have h59 : (σ4.set 5 (some (.ref ba0)))[5]? = some (some (V.ref ba0)) := List.getElem?_set_self (by omega)
    generalize σ4.set 5 (some (V.ref ba0)) = σ9 at S9 w9 h59
    have l9' : σ9.length = 9 := S9.len.symm
    have hW2 : Bare ([some (.l (os.map eS)), some (.l (cs.map eS)), none, some (.d (.int (p : Nat))), some (.d (eS (hd0 :: tl))), none, none, none, none] : Gm) [5, 6, 7, 8] := bare_of
    -- for one in chain: bound = _law_sum(bound, ..)
    refine wss_cons (ws_for (ds := (hd0 :: tl).map .int) (g := gName 6) (Iq := fun _ => False) (srcS_tup S9 (pu_var 4)) (pg_name sc_63.nd rfl (by first | exact Or.inl rfl | exact Or.inr rfl)) fun pq H10 s10 hpq => ?_)
    refine ⟨fun i σ'' H'' => wipe σ'' [5, 6, 7, 8] = wipe σ9 [5, 6, 7, 8] ∧ Same H10 H'' ∧ ∃ (bd : List Int) (ba : Addr), σ''[5]? = some (some (V.ref ba)) ∧ Ls H'' ba (bd.map .int) ∧ bd.Nodup ∧ (∀ x ∈ bd, 0 ≤ x ∧ x < (os.length : Int)) ∧ vc bd = sv (Dv os) ((hd0 :: tl).take i), ⟨rfl, .refl _, [], ba0, h59, l9.mono s10, .nil, (fun x hx => nomatch hx), rfl⟩, fun i σ'' H'' _ hP => .of hP.2.1, fun i dd σ'' H'' x H11 hdd hP s11 im => ?_, fun σe He hP => ?_⟩
    · obtain ⟨wi, si, bd, ba, h5, lba, bnd, bbd, bvc⟩ := hP
      rw [List.getElem?_map] at hdd
      cases hci : (hd0 :: tl)[i]? with
      | none => rw [hci] at hdd; cases hdd
      | some ci =>
        rw [hci] at hdd
        cases hdd
        cases im
        have hcm : ci ∈ hd0 :: tl := List.mem_of_getElem? hci
        have hti : os.getD ci.toNat [] ∈ os := by
          rw [List.getD_eq_getElem?_getD, List.getElem?_eq_getElem (hin ci hcm)]
          exact List.getElem_mem _
        have hat : os[ci.toNat]? = some (os.getD ci.toNat []) := by rw [List.getD_eq_getElem?_getD, List.getElem?_eq_getElem (hin ci hcm)]; rfl
        have hsx := O.sx _ hti
        have hfin : ∀ f ∈ fc (os.getD ci.toNat []), f ∈ os := fun f hf => List.mem_of_mem_take (O.fb _ _ hat f hf)
        have hltp : ∀ f ∈ fc (os.getD ci.toNat []), os.idxOf f < os.length := fun f hf => List.idxOf_lt_length_of_mem (hfin f hf)
        show WSs _ _ _ (σ''.set 6 (some (V.int ci))) H11
        have S11 := (((S9.mono (s10.trans (si.trans s11))).wiped wi hW2).set 6 (r := .d (.int ci)) (.int ci)).add 5 (r := .l (bd.map .int)) (by rw [List.getElem?_set_ne (by decide)]; exact h5) ⟨ba, rfl, lba.mono s11⟩
        have hperm : ((lf (os.getD ci.toNat [])).map (ix os)).Perm ((fc (os.getD ci.toNat [])).map (ix os)) := (List.reverse_perm _).map _
        have cnd : ((lf (os.getD ci.toNat [])).map (ix os)).Nodup := hperm.nodup_iff.mpr (bd_nodup hsx hfin)
        have clen : ∀ (c : List Int), c.Nodup → (∀ x ∈ c, 0 ≤ x ∧ x < (os.length : Int)) → c.length ≤ 10000 := fun c hn hb => by
          have h1 := asc_len (asc_sort hn) (N := os.length) fun x hx => hb x ((List.mergeSort_perm _ _).mem_iff.mp hx)
          rw [List.length_mergeSort] at h1
          omega
        have cbd : ∀ x ∈ (lf (os.getD ci.toNat [])).map (ix os), 0 ≤ x ∧ x < (os.length : Int) := fun x hx => by
          obtain ⟨f, hf, rfl⟩ := List.mem_map.mp (hperm.mem_iff.mp hx)
          have := hltp f hf
          unfold ix; omega
        refine wss_one (ws_setN 5 sc_63.nd S11 (pun_call DS.df hr (pua_cons (pu_var 5) (pua_cons ((lcd1a (xs := lf (os.getD ci.toNat [])) (enc := eS) ["_law_order", "_law_chains", "_law_lasts", "_law_place", "_law_chain", "_law_bound", "_law_one", "_law_k", "_law_face"] (defScope (top 63)) 8 (fun f => .int (ix os f)) (src_list (pun_call DF.df hr (pua_cons (pu_ixL (pu_var 0) (pu_var 6) (atI_nat' (osat ci hcm) (by have := (a3 ci hcm).1; omega))) pua_nil) ⟨_, hsx, rfl, rfl⟩).pu) sc_63.nd (by unfold lf; rw [List.length_reverse]; have := fc_len (s := os.getD ci.toNat []); omega)
          (fun f hf _ _ _ _ _ => pu_indexS hu (pu_var 0) (pu_var 8) (hfin f (by unfold lf at hf; simpa using hf)))).to (ds' := ((lf (os.getD ci.toNat [])).map (ix os)).map .int) (by rw [List.map_map]; rfl)).pun.pu pua_nil)) ⟨bd, _, rfl, clen bd bnd bbd, clen _ cnd cbd, rfl⟩) fun ba2 H12 n12 s12 l12 => ?_)
        have l''  : σ''.length = 9 := by
          have := congrArg List.length wi
          rw [wipe_length, wipe_length] at this
          omega
        refine ⟨((wipe_set (by simp)).trans (wipe_set (by simp))).trans wi, (si.trans s11).trans s12, _, ba2, List.getElem?_set_self (by simp [l'']), l12, symd_nodup bnd cnd, fun x hx => ?_, ?_⟩
        · rcases mem_symd.mp hx with z | z
          · exact bbd x z.1
          · exact cbd x z.1
        · have e1 : (hd0 :: tl).take (i + 1) = (hd0 :: tl).take i ++ [ci] := by
            obtain ⟨h1, h2⟩ := List.getElem?_eq_some_iff.mp hci
            rw [List.take_succ_eq_append_getElem h1, h2]
          rw [vc_symd, bvc, e1, sv_append]
          congr 1
          show _ = vx (Dv os ci) vz
          rw [vx_z]
          funext x
          show decide (x ∈ (lf (os.getD ci.toNat [])).map (ix os)) = decide (x ∈ K47.bd os (os.getD ci.toNat []))
          have e2 : (x ∈ (lf (os.getD ci.toNat [])).map (ix os)) ↔ x ∈ K47.bd os (os.getD ci.toNat []) := by
            rw [hperm.mem_iff]; unfold K47.bd; rw [(List.mergeSort_perm _ _).mem_iff]
          exact decide_eq_decide.mpr e2
    · obtain ⟨wi, si, bdl, ba, h5, lba, bnd, bbd, bvc⟩ := hP
      rw [List.length_map, List.take_length] at bvc
      have evc : vc bdl = vc b := bvc.trans b2.symm
      have sHe : Same H' He := s48.trans (s9.trans (s10.trans si))
      have we : wipe σe [3, 4, 5, 6, 7, 8] = wipe σ' [3, 4, 5, 6, 7, 8] := (wipe_sub wi (by simp)).trans w9
      have hf2 : σe[2]? = some (some (V.ref q)) := by rw [wipe_get we (by decide)]; exact hf
      have hle' := hl.mono sHe
      have Se := ((((S9.mono (s10.trans si)).wiped wi hW2).add 5 (r := .l (bdl.map .int)) h5 ⟨ba, rfl, lba⟩)).add 2 (r := .l ((lowsOf bs p).map .int)) hf2 ⟨q, rfl, hle'⟩
      have hlows : lowsOf bs (p + 1) = lowsOf bs p ++ b.getLast?.toList := by
        unfold lowsOf
        obtain ⟨h1, h2⟩ := List.getElem?_eq_some_iff.mp hb
        rw [List.take_succ_eq_append_getElem h1, h2, List.filterMap_append]
        rw [List.filterMap_cons]
        cases b.getLast? <;> rfl
      by_cases hb0 : bdl = []
      · subst hb0
        have hbn : b.getLast? = none := by
          cases e : b.getLast? with
          | none => rfl
          | some m =>
            have h1 := ((low_last b1).mp e).1
            rw [← evc] at h1
            simp [vc] at h1
        refine wss_cons (ws_ifN Se ((PuB.t (pub_and (c := false) (d := true) ((put_cmp op_gt rv_gt (by rfl) (pu_lenL M (pu_var 5)) pu_int).to (by simp)) fun h => nomatch h)).to rfl) fun Hf sf => ?_)
        refine wss_one (ws_ifN (Se.mono sf) ((put_cmp op_gt rv_gt (by rfl) (pu_lenL M (pu_var 5)) pu_int).to (by simp)) fun Hg sg => hN _ _ (.of (sHe.trans (sf.trans sg))) ?_ we)
        rw [hlows, hbn]
        simpa using (hle'.mono sf).mono sg
      · obtain ⟨m, hm, hmax⟩ := max_ex hb0
        have hlow : Low (vc b) m := by rw [← evc]; exact low_max hm hmax
        have hlast := (low_last b1).mpr hlow
        have hpos : decide ((0 : Int) < ((bdl.map PyData.int).length : Nat)) = true := by
          have := List.length_pos_of_mem hm
          simp; exact this
        have hnot : m ∉ lowsOf bs p := fun hmem => by
          unfold lowsOf at hmem
          obtain ⟨b', hb', hlb'⟩ := List.mem_filterMap.mp hmem
          obtain ⟨jj, hj⟩ := List.mem_iff_getElem?.mp hb'
          rw [List.getElem?_take] at hj
          split at hj
          · rename_i hjp
            obtain ⟨m', rfl⟩ := Int.eq_ofNat_of_zero_le (bbd m hm).1
            have e1 := (R.iff m' jj).mpr ⟨by omega, b', hj, hlb'⟩
            have e2 := (R.iff m' p).mpr ⟨hp, b, hb, hlast⟩
            rw [e1] at e2
            have := Option.some.inj e2
            omega
          · cases hj
        refine wss_cons (ws_ifN Se ((PuB.t (pub_and (c := true) ((put_cmp op_gt rv_gt (by rfl) (pu_lenL M (pu_var 5)) pu_int).to hpos) fun _ => pub_and1 (put_cmp op_in_seq rv_inL (by rfl) (pu_max M rfl (pu_var 5) hm hmax) (pu_var 2)))).to (by simp [hnot])) fun Hf sf => ?_)
        refine wss_one (ws_if (b := true) (Se.mono sf) ((put_cmp op_gt rv_gt (by rfl) (pu_lenL M (pu_var 5)) pu_int).to hpos) (fun _ Hg sg => ?_) fun h => nomatch h)
        refine wss_one (ws_app 2 (d := .int m) ((Se.mono sf).mono sg) hf2 ((hle'.mono sf).mono sg) (pu_max M rfl (pu_var 5) hm hmax) ?_ fun Hh xh lh => hN _ _ ((SameX.of (sHe.trans (sf.trans sg))).trans xh) ?_ we)
        · rw [List.length_map]
          unfold lowsOf
          refine Nat.le_trans (List.length_filterMap_le _ _) ?_
          rw [List.length_take]; omega
        · rw [hlows, hlast]
          simpa using lh
  · intro σ' H' xH hl hw
    have sH : Same H0 H' := s1.trans (xH.base s2 hq)
    have SH : Sl H' σ' _ := (S0'.wiped hw hW).mono (xH.base s2 hq)
    exact wss_one (ws_ret SH pu_bl fun v H3 s3 a3 => q' v H3 (sH.trans s3) a3)
end
end K47
/-! P19: _law_single -/
namespace K47
open PySem PySem.Spec PyProof.Rows L2
def putT (l : List Itm) (s : Sim) (h : Int) : List Itm := if s ∈ l.map (·.1) then l.map (fun p => if p.1 = s then (s, h) else p) else l ++ [(s, h)]
theorem putT_enc (l : List Itm) (s : Sim) (h : Int) : putK (encT l) (s.map Sum.inl) (V.int h) = encT (putT l s h) := by
  have hany : ((encT l).any fun kv => decide (kv.1 = s.map Sum.inl)) = decide (s ∈ l.map (·.1)) := by
    unfold encT
    rw [List.any_map]
    apply Bool.eq_iff_iff.mpr
    simp only [List.any_eq_true, Function.comp, decide_eq_true_eq]
    constructor
    · rintro ⟨p, hp, e⟩
      exact List.mem_map.mpr ⟨p, hp, inl_map_inj e⟩
    · intro hm
      obtain ⟨p, hp, e⟩ := List.mem_map.mp hm
      exact ⟨p, hp, by rw [← e]⟩
  unfold putK putT
  rw [hany]
  by_cases hm : s ∈ l.map (·.1)
  · rw [if_pos (by simpa using hm), if_pos hm]
    unfold encT
    rw [List.map_map, List.map_map]
    apply List.map_congr_left
    intro p _
    simp only [Function.comp]
    by_cases e : p.1 = s
    · rw [if_pos (by rw [e]), if_pos e, e]
    · rw [if_neg (fun z => e (inl_map_inj z)), if_neg e]
  · rw [if_neg (by simpa using hm), if_neg hm]
    simp [encT]
theorem putT_perm {l : List Itm} (nd : (l.map (·.1)).Nodup) (s : Sim) (h : Int) : (putT l s h).Perm (wo l s ++ [(s, h)]) := by
  unfold putT
  by_cases hm : s ∈ l.map (·.1)
  · rw [if_pos hm]
    induction l with
    | nil => simp at hm
    | cons p r ih =>
      rw [List.map_cons, List.nodup_cons] at nd
      by_cases e : p.1 = s
      · have hn : s ∉ r.map (·.1) := by rw [← e]; exact nd.1
        have e1 : r.map (fun p => if p.1 = s then (s, h) else p) = r := by
          have : ∀ x ∈ r, (if x.1 = s then (s, h) else x) = x := fun x hx => by
            rw [if_neg fun z => hn (List.mem_map.mpr ⟨x, hx, z⟩)]
          rw [List.map_congr_left this, List.map_id']
        have e2 : wo (p :: r) s = r := by
          unfold wo
          rw [List.filter_cons_of_neg (by simp [e])]
          exact wo_none hn
        rw [List.map_cons, if_pos e, e1, e2]
        exact (List.perm_append_singleton (s, h) r).symm
      · have hm' : s ∈ r.map (·.1) := by
          rcases List.mem_cons.mp hm with z | z
          · exact absurd z.symm e
          · exact z
        have e2 : wo (p :: r) s = p :: wo r s := by
          unfold wo
          rw [List.filter_cons_of_pos (by simp [e])]
        rw [List.map_cons, if_neg e, e2]
        exact (ih nd.2 hm').cons p
  · rw [if_neg hm, wo_none hm]
theorem gr_putT {l : List Itm} (nd : (l.map (·.1)).Nodup) (s : Sim) (h : Int) : gr (putT l s h) = gr (wo l s ++ [(s, h)]) := gr_of_perm (putT_perm nd s h)
section
variable {X : Cx} {Γ : Gm} {σ : L2.St} {H : Hp} {e : Expr} {p pos apos cpos np : Pos} {Q : VK} {l : List Itm}
/-- dict(list of pairs), plainly new -/
theorem we_dictT (M : Mg X.mg) (hu : X.A.units + 100 < cLine) (S : Sl H σ Γ) (ha : Pu X Γ e (.l (l.map eTI))) (nd : (l.map (·.1)).Nodup) (q : ∀ a H', H a = none → Same H H' → H' a = some (.dT (encT l)) → Q (.ref a) H') (hc : X.calm = true := by rfl)
    (hg : Gl X "dict" := by rfl) (he : starEach [e] X.env = [(false, eval e X.env)] := by rfl) (hpl : (backTo pos (starEach [] X.env)).any (·.1) = false := by rfl) : WE X (.Call (.Name "dict" p) [e] [] pos) σ H Q :=
  we_of (pe_callTy (call_dictT hc hu) hg M.dict (by decide +kernel) (pa_cons pe_we pa_nil he) (he := he) (hpl := hpl)) (ha σ H S _ fun v H1 s1 a1 => by
    obtain ⟨a, rfl, vs, hp, al⟩ := a1
    exact ⟨a, vs, l, rfl, SqL.of hp, al, nd, fun np hnp => q np _ (s1.free hnp) (s1.trans (same_new hnp)) upd_same⟩)
theorem we_items {x : Str} (M : Mg X.mg) (i : Nat) {a : Addr} (hv : σ[i]? = some (some (.ref a))) (hd : H a = some (.dT (encT l))) (q : ∀ p H', H p = none → Same H H' → Ls H' p (l.map eTI) → Q (.ref p) H') (hc : X.calm = true := by rfl) (hN : X.N[i]? = some x := by rfl)
    (hvis : Vis X.env.scope x := by first | exact Or.inl rfl | exact Or.inr (Or.inl rfl) | exact Or.inr (Or.inr rfl)) (hg : Gl X "list" := by rfl) (hbase : attributeBase (.Name x np) "items" X.env (eval (.Name x np) X.env) = eval (.Name x np) X.env := by rfl) (hline : (apos.endLine == cpos.line) = true := by rfl) (hdb : (x == ("__debug__" : Str)) = false := by decide) (hcd : (x == ("__classdict__" : Str)) = false := by decide)
    (hs : starEach [.Call (.Attribute (.Name x np) "items" apos) [] [] cpos] X.env = (false, eval (.Call (.Attribute (.Name x np) "items" apos) [] [] cpos) X.env) :: starEach [] X.env := by rfl) : WE X (.Call (.Name "list" p) [.Call (.Attribute (.Name x np) "items" apos) [] [] cpos] [] pos) σ H Q :=
  we_of (pe_listItemsT hc (pe_var hN hvis hdb hcd) hg M.list (by decide +kernel) hbase hline hs) ⟨.ref a, hv, a, l, rfl, hd, q⟩
end
end K47
/-! P20: _law_single, the walk -/
namespace K47
open PySem PySem.Spec PyProof.Rows L2
section
variable {P : Program} {w : World} {K : PySem.W.Frag} {mg : Str → Option Value} {base : Heap}
def rLS : List Rs → List PyData → Prop := fun as r => ∃ (l : List Itm) (e : Ed), VS l ∧ Can l e ∧ as = [.l (l.map eTI), .d (eE e)] ∧ r = (app l e).map eTI
theorem sc_68 : FnScope ["_law_items", "_law_edit_here", "_law_heights", "_law_simplex", "_law_above", "_law_face", "_law_other", "_law_item"] ["_law_items", "_law_edit_here"] (defScope (top 68)) := ⟨rfl, rfl, rfl, by decide +kernel, rfl, by decide +kernel, by decide +kernel⟩
theorem ok_lsingle (M : Mg mg) (S : Stands K mg "_law_single" 68) (DC : Df0 P w K mg base "_law_cofaces" 2 (spN rLCo)) (DG : Df0 P w K mg base "_law_grown" 1 (spN rLGr)) (DF : Df0 P w K mg base "_law_faces" 1 (spN rLFac)) : Df0 P w K mg base "_law_single" 3 (spN rLS) := by
  refine mk_pun S sc_68 (fun as r h => by obtain ⟨l, _, _, _, rfl, _⟩ := h; rfl) (fun _ _ _ _ _ _ us hl => match us, hl with | [_, _], _ => rfl) fun f cdv A outer s H E hr as r h => ?_
  obtain ⟨l, e, VV, hcan, rfl, rfl⟩ := h
  have hu : (A.deeper (envOfC "_law_single" (defScope (top 68)) s.heap.objs.size f cdv)).units + 100 < cLine := by have := hr.un; omega
  have hu1 : (A.deeper (envOfC "_law_single" (defScope (top 68)) s.heap.objs.size f cdv)).units + 1 < cLine := by omega
  have hu64 : (A.deeper (envOfC "_law_single" (defScope (top 68)) s.heap.objs.size f cdv)).units + 64 < cLine := by omega
  have hlen := VV.len
  intro σ H0 S00 D q'
  have hσ : σ.length = 8 := S00.len.symm
  refine wss_cons (ws_setW 2 sc_68.nd (we_dictT M hu S00 (pu_var 0) VV.nd fun hd H1 n1 s1 hd1 => ?_))
  have S1 := (S00.mono s1).set 2 (r := .t l) ⟨hd, rfl, .inl hd1⟩
  have v2 : (σ.set 2 (some (V.ref hd)))[2]? = some (some (V.ref hd)) := List.getElem?_set_self (by omega)
  refine wss_cons (ws_set 3 sc_68.nd S1 (pu_esim (pu_var 1)) fun v3 H2 s2 a3 => ?_)
  have S2 := (S1.mono s2).set 3 a3
  have hsx : Sx e.sim := by
    cases e with
    | ht t h => exact hcan.2.1
    | ad t h => exact hcan.2.2.1
    | tk t =>
      obtain ⟨p, hp, ep⟩ := List.mem_map.mp hcan.1
      show Sx t
      rw [← ep]; exact VV.sx p hp
  refine wss_cons (ws_setN 4 sc_68.nd S2 (pun_call DC.df hr (pua_cons (pu_var 2) (pua_cons (pu_var 3) pua_nil)) ⟨l, e.sim, VV, rfl, rfl⟩) fun ab H3 n3 s3 l3 => ?_)
  have S3 := (S2.mono s3).set 4 (r := .l ((cofs l e.sim).map eS)) ⟨ab, rfl, l3⟩
  have v2' : (((σ.set 2 (some (V.ref hd))).set 3 (some v3)).set 4 (some (.ref ab)))[2]? = some (some (V.ref hd)) := by rw [List.getElem?_set_ne (by decide), List.getElem?_set_ne (by decide)]; exact v2
  have hd3 := s3 _ _ (s2 _ _ hd1)
  have s03 := (s1.trans s2).trans s3
  generalize ((σ.set 2 (some (V.ref hd))).set 3 (some v3)).set 4 (some (V.ref ab)) = σ3 at S3 v2'
  have hwo : (wo l e.sim).length ≤ 60 := Nat.le_trans (List.length_filter_le _ _) hlen
  have hcn : e.isT = true → cofs l e.sim = [] := fun hT => by
    cases e with
    | ht t h => cases hT
    | ad t h => cases hT
    | tk t =>
      unfold cofs
      have : l.filter (fun p => decide (t ∈ fc p.1)) = [] := by
        rw [List.filter_eq_nil_iff]
        intro p hp
        simpa using hcan.2 p hp
      show ((l.filter fun p => decide (t ∈ fc p.1)).map (·.1)) = []
      rw [this]; rfl
  refine wss_cons (ws_if (b := e.isT) S3 (put_isT (pu_var 1)) (fun hT H4 s4 => ?_) fun hT H4 s4 => wss_nil ?_)
  · -- take
    cases e with
    | ht t h => cases hT
    | ad t h => cases hT
    | tk t =>
      have S4 := S3.mono s4
      refine wss_cons (ws_ifN S4 ((PuB.t (pub_or (put_ninT hu1 (pu_var 3) (pu_var 2)) fun _ => pub_or1 (put_cmp (op_neD hu64) (rv_neL (sh_Ss _) (sh_Ss [])) (by rfl) (pu_var 4) (pun_lst (ds := []) pua_nil).pu))).to ?_) fun H5 s5 => ?_)
      · have h1 : (lkT l (Ed.tk t).sim).isSome = true := by rw [lk_isSome]; exact decide_eq_true hcan.1
        rw [h1, hcn rfl]
        simp [PyData.eqv, PyData.eqvAll]
      · refine wss_one (ws_retN (S4.mono s5) (pun_call DG.df (hr.mono (by decide)) (pua_cons ((lcd1 (xs := l) (enc := eTI) ["_law_items", "_law_edit_here", "_law_heights", "_law_simplex", "_law_above", "_law_face", "_law_other", "_law_item"] (defScope (top 68)) 7 (fun p => decide (p.1 ≠ t)) eTI (src_list (pu_var 0)) sc_68.nd (by omega) (fun p _ _ _ _ _ _ => .one ?_) (fun p _ _ _ _ _ _ _ => pu_var 7)).pun.pu) pua_nil) ⟨wo l t, by have : (wo l t).length ≤ 60 := hwo; omega, rfl, rfl⟩) fun p H6 n6 s6 l6 => q' p H6 ((s03.trans (s4.trans s5)).free n6) ((s03.trans (s4.trans s5)).trans s6) ?_)
        · exact (put_cmp (op_neD hu64) (rv_neD (sh_S p.1) (sh_S t)) (by rfl) (pu_ixT (pu_var 7) pu_int (atI_nat' (n := 0) rfl rfl)) (pu_var 3)).to (by rw [eqv_S]; simp)
        · show Ls H6 p ((gr (wo l t ++ [])).map eTI)
          rw [List.append_nil]; exact l6
  · -- height, add
    obtain ⟨t, hh, hsim, hadd, hB, hx, hw1, hw2⟩ : ∃ t hh, e.sim = t ∧ e.add = [(t, hh)] ∧ Btw l t hh ∧ (eEl e)[2]? = some (.int hh) ∧ (decide (t ∈ l.map (·.1)) = decide (e.word = "height")) ∧ (e.isA = true → l.length < 60) := by
      cases e with
      | tk t => cases hT
      | ht t z => exact ⟨t, z, rfl, rfl, hcan.2, rfl, by rw [decide_eq_true hcan.1]; exact w_hh.symm, fun h => nomatch h⟩
      | ad t z => exact ⟨t, z, rfl, rfl, hcan.2.2, rfl, by rw [decide_eq_false hcan.1]; exact w_ah.symm, fun _ => hcan.2.1⟩
    obtain ⟨b1, b2, b3, b4, b5⟩ := hB
    have S4 := S3.mono s4
    refine wss_cons (ws_ifN S4 ((PuB.t (pub_or (put_cmp op_ne rv_neB (by rfl) (pu_inT hu1 (pu_var 3) (pu_var 2)) (pu_cmp op_eq rv_eqS (by rfl) (pu_ixT ((pu_var 1).to (by rw [eE_eq])) pu_int (atI_nat' (n := 0) (eEl0 e) rfl)) pu_str)) fun _ => pub_or1 (PuB.t (pub_and (put_isA (pu_var 1)) fun _ => pub_and1 (put_cmp op_eq rv_eqI (by rfl) (pu_lenL M (pu_var 0)) pu_int))))).to ?_) fun H5 s5 => ?_)
    · rw [lk_isSome, hsim, hw1]
      cases hA : e.isA with
      | false => simp
      | true => have := hw2 hA; simp; omega
    have S5 := S4.mono s5
    -- for face in faces(simplex)
    refine wss_cons (ws_pure (ds := (lf e.sim).map eS) (Γ0 := [some (.l (l.map eTI)), some (.d (eE e)), some (.t l), some (.d (eS e.sim)), some (.l ((cofs l e.sim).map eS)), none, none, none]) (g := gName 5) [5] (srcS_new S5 (pun_call DF.df (hr.mono (by decide)) (pua_cons (pu_var 3) pua_nil) ⟨e.sim, hsx, rfl, rfl⟩)) (pg_name sc_68.nd rfl (Or.inl rfl)) S5 bare_of (fun i d hdd σ' H' x sH SH hw im N hN => ?_) fun σ6 H6 s6 w6 => ?_)
    · rw [List.getElem?_map] at hdd
      cases hj : (lf e.sim)[i]? with
      | none => rw [hj] at hdd; cases hdd
      | some fa =>
        rw [hj] at hdd
        cases hdd
        have hfm : fa ∈ fc t := by rw [← hsim]; have := List.mem_of_getElem? hj; unfold lf at this; simpa using this
        obtain ⟨h', hh', hle⟩ := b4 fa hfm
        have hlk := lk_mem VV.nd hh'
        have SH6 := SH.set 5 (r := .d _) im
        refine wss_one (ws_ifN SH6 ((PuB.t (pub_or (put_ninT hu1 (pu_var 5) (pu_var 2)) fun _ => pub_or1 (put_cmp op_gt rv_gt (by rfl) (pu_getT hu1 (pu_var 2) (pu_var 5) hlk) (pu_ixT ((pu_var 1).to (by rw [eE_eq])) pu_int (atI_nat' (n := 2) hx rfl))))).to (by rw [hlk]; simp; omega)) fun H8 s8 => hN _ _ s8 (wipe_set (by simp)))
    have S6 := (S5.mono s6).wiped (W := [5]) w6 bare_of
    have v26 : σ6[2]? = some (some (V.ref hd)) := by rw [wipe_get w6 (by decide)]; exact v2'
    -- if any(..)
    refine wss_cons (ws_ifN S6 ((pu_val (pu_any (bs := (cofs l e.sim).map fun o => decide (lkh l o < hh)) M rfl ((lcd1a (xs := cofs l e.sim) (enc := eS) ["_law_items", "_law_edit_here", "_law_heights", "_law_simplex", "_law_above", "_law_face", "_law_other", "_law_item"] (defScope (top 68)) 6 (fun o => .bool (decide (lkh l o < hh))) (src_list (pu_var 4)) sc_68.nd (by unfold cofs; rw [List.length_map]; have := List.length_filter_le (fun p : Itm => decide (e.sim ∈ fc p.1)) l; omega)
      (fun o ho _ _ _ _ _ => ?_)).to map_bools).pun.pu)).to ?_) fun H7 s7 => ?_)
    · have hm : o ∈ l.map (·.1) := by
        obtain ⟨p, hp, rfl⟩ := List.mem_map.mp ho
        exact List.mem_map.mpr ⟨p, (List.mem_filter.mp hp).1, rfl⟩
      exact pu_cmp op_lt rv_lt (by rfl) (pu_getT hu1 (pu_var 2) (pu_var 6) (lkT_lkh hm)) (pu_ixT ((pu_var 1).to (by rw [eE_eq])) pu_int (atI_nat' (n := 2) hx rfl))
    · simp only [List.any_map, List.any_eq_false, Function.comp, id, decide_eq_true_eq]
      intro o ho
      obtain ⟨p, hp, rfl⟩ := List.mem_map.mp ho
      obtain ⟨hp1, hp2⟩ := List.mem_filter.mp hp
      have e1 : lkh l p.1 = p.2 := lkh_eq VV.nd (show (p.1, p.2) ∈ l from hp1)
      have := b5 p hp1 (by rw [← hsim]; simpa using hp2)
      rw [e1]; omega
    have S7 := S6.mono s7
    have hd7 := s7 _ _ (s6 _ _ (s5 _ _ (s4 _ _ hd3)))
    have s07 := s03.trans (s4.trans (s5.trans (s6.trans s7)))
    obtain ⟨v3', hv3, im3⟩ := S7.at_ 3 (.d (eS e.sim)) rfl
    -- heights[simplex] = edit[2]
    refine wss_cons (ws_putD hu1 (we_pu S7 (r := .d (.int hh)) (pu_ixT ((pu_var 1).to (by rw [eE_eq])) pu_int (atI_nat' (n := 2) hx rfl)) fun v8 H8 s8 a8 => we_name 2 v26 (we_name 3 hv3 ?_)))
    cases a8
    obtain ⟨kb, rfl, hkb⟩ := Im.tup_ints (Im.mono (.of s8) im3)
    have hd8 := s8 _ _ hd7
    refine ⟨hd, upd H8 hd (.dT (putK (encT l) (e.sim.map Sum.inl) (V.int hh))), rfl, DPut.t hd8 (by rw [kv_ints]; exact hkb) ?_, ?_⟩
    · have e1 : (encT l).length = l.length := by simp [encT]
      rw [e1]
      exact Nat.lt_of_le_of_lt (show l.length ≤ 60 from hlen) (by decide)
    rw [putT_enc]
    have nhd : H0 hd = none := n1
    have s0u : Same H0 (upd H8 hd (.dT (encT (putT l e.sim hh)))) := fun a o ho => by rw [upd_ne (ne_of_none ho nhd)]; exact (s07.trans s8) a o ho
    have hz : (putT l e.sim hh).length ≤ 1000 := by
      have := (putT_perm VV.nd e.sim hh).length_eq
      rw [this, List.length_append]; simp; omega
    refine wss_one (ws_retW (we_call DG.df (hr.mono (by decide)) (wa_cons (we_items M 2 v26 upd_same fun p9 H9 n9 s9 l9 => wa_nil fun E' => ⟨[.l ((putT l e.sim hh).map eTI)], _, .cons ⟨p9, rfl, l9⟩ .nil, ⟨putT l e.sim hh, hz, rfl, rfl⟩, fun p10 H10 n10 s10 l10 => q' p10 H10 ((s0u.trans s9).free n10) ((s0u.trans s9).trans s10) ?_⟩))))
    have e9 : gr (putT l e.sim hh) = app l e := by rw [gr_putT VV.nd]; unfold app; rw [hadd, hsim]
    rw [e9] at l10
    exact l10
end
end K47
/-! P21: _law_deck -/
namespace K47
open PySem PySem.Spec PyProof.Rows L2
theorem sq_same {K : PySem.W.Frag} {H H' : Hp} {a : Addr} {xs : List V} (h : SqL K H a xs) (s : Same H H') : SqL K H' a xs := by
  rcases h with h | h
  · exact .inl (rd_mono s h)
  · exact .inr h
/-- for over a list that may be written -/
theorem srcS_sq {X : Cx} {tg : Expr} {σ : L2.St} {H : Hp} {p : Pos} {x : Str} {ns : List Int} (i : Nat) {a : Addr} (hv : σ[i]? = some (some (.ref a))) (hl : SqL X.K H a (ns.map V.int)) (hN : X.N[i]? = some x := by rfl)
    (hvis : Vis X.env.scope x := by first | exact Or.inl rfl | exact Or.inr (Or.inl rfl) | exact Or.inr (Or.inr rfl)) (hd : (x == ("__debug__" : Str)) = false := by decide) (hcd : (x == ("__classdict__" : Str)) = false := by decide) : SrcS X tg (.Name x p) σ H (ns.map .int) (fun b => b = a) := by
  refine ⟨_, pi_list pe_we, fun R r => we_name i hv ⟨a, rfl, ⟨_, hl⟩, ?_⟩ hN hvis hd hcd⟩
  have fin : ∀ (i : Nat) (H2 : Hp) (y : V) (H3 : Hp), i < (ns.map PyData.int).length → YAt (ns.map V.int) i H2 y H3 → Same H2 H3 ∧ ∃ d, (ns.map PyData.int)[i]? = some d ∧ Im H3 y d := fun i H2 y H3 _ hy => by
    obtain ⟨e1, e2⟩ := hy
    subst e1
    rw [List.getElem?_map] at e2
    cases e : ns[i]? with
    | none => rw [e] at e2; cases e2
    | some n =>
      rw [e] at e2
      cases e2
      exact ⟨Same.refl _, .int n, by rw [List.getElem?_map, e]; rfl, .int n⟩
  have hw : Walk (Itl X.K a) (ns.map PyData.int).length (fun H => SqL X.K H a (ns.map V.int)) (YAt (ns.map V.int)) := by
    have : (ns.map PyData.int).length = (ns.map V.int).length := by simp
    rw [this]; exact walk_list
  rcases hl with hl | hl
  · refine r _ H (fun H2 => SqL X.K H2 a (ns.map V.int)) (YAt (ns.map V.int)) (some a) (Same.refl H) (fun b e => by
      cases e
      rcases hl with hl | ⟨o, hl⟩
      · exact ⟨rfl, _, hl⟩
      · exact ⟨rfl, _, hl⟩) hw (fun H2 s2 => .inl (by
      rcases hl with hl | ⟨o, hl⟩
      · exact .inl (s2.2 _ rfl _ hl)
      · exact .inr ⟨o, s2.2 _ rfl _ hl⟩)) fun i H2 y H3 hi _ hy => fin i H2 y H3 hi hy
  · exact r _ H (fun H2 => SqL X.K H2 a (ns.map V.int)) (YAt (ns.map V.int)) none (Same.refl H) (fun b e => nomatch e) hw (fun H2 _ => .inr hl) fun i H2 y H3 hi _ hy => fin i H2 y H3 hi hy
theorem we_listSq {X : Cx} {σ : L2.St} {H : Hp} {e : Expr} {p pos : Pos} {Q : VK} (M : Mg X.mg) (h : WE X e σ H fun v H1 => ∃ a vs, v = .ref a ∧ SqL X.K H1 a vs ∧ ∀ l, H1 l = none → Q (.ref l) (upd H1 l (.lst vs))) (hg : Gl X "list" := by rfl) (he : starEach [e] X.env = [(false, eval e X.env)] := by rfl) (hpl : (backTo pos (starEach [] X.env)).any (·.1) = false := by rfl) : WE X (.Call (.Name "list" p) [e] [] pos) σ H Q :=
  we_of (pe_callTy call_list_of hg M.list (by decide +kernel) (pa_cons pe_we pa_nil he) (he := he) (hpl := hpl)) (h.mono fun v H1 ⟨a, vs, e1, hq, q⟩ => by
    subst e1
    exact ⟨_, _, rfl, .inl hq, q⟩)
section
variable {P : Program} {w : World} {K : PySem.W.Frag} {mg : Str → Option Value} {base : Heap}
def spDeck (K : PySem.W.Frag) : Sp := fun vs H Q _ => ∃ (a : Addr) (ns : List Int), vs = [V.ref a] ∧ SqL K H a (ns.map V.int) ∧ ∀ d il H', H d = none → H il = none → Same H H' → DK H' d il ns → Q (.ref d) H'
theorem sc_57 : FnScope ["_law_script", "_law_seed", "_law_cell"] ["_law_script"] (defScope (top 57)) := ⟨rfl, rfl, rfl, by decide +kernel, rfl, by decide +kernel, by decide +kernel⟩
theorem ok_ldeck (M : Mg mg) (S : Stands K mg "_law_deck" 57) : Df0 P w K mg base "_law_deck" 1 (spDeck K) := by
  refine mk_def S sc_57 (fun vs H Q E h => by obtain ⟨_, _, rfl, _⟩ := h; rfl) (fun _ _ _ _ _ _ us hl => match us, hl with | [_], _ => rfl) fun f cdv A outer s H vs Q E hr h => ?_
  obtain ⟨a, ns, rfl, hq, q'⟩ := h
  have hv : L2.start ["_law_script", "_law_seed", "_law_cell"] [V.ref a] = [some (.ref a), none, none] := rfl
  rw [hv]
  have SL : ∀ (H' : Hp) (n : Int) (y : Option V), Sl H' [some (V.ref a), some (.int n), y] [none, some (.d (.int n)), none] := fun H' n y => ⟨rfl, fun i r z => by
    match i with
    | 0 => cases z
    | 1 => cases z; exact ⟨_, rfl, .int _⟩
    | 2 => cases z
    | i + 3 => cases z⟩
  have S00 : Sl H [some (V.ref a), none, none] [none, none, none] := ⟨rfl, fun i r z => by
    match i with
    | 0 => cases z
    | 1 => cases z
    | 2 => cases z
    | i + 3 => cases z⟩
  refine wss_cons (ws_set 1 sc_57.nd S00 (pu_int (i := 7)) fun v1 H1 s1 a1 => ?_)
  cases a1
  show WSs _ _ _ [some (V.ref a), some (.int 7), none] H1
  refine wss_cons (ws_for (g := gName 2) (srcS_sq 0 rfl (sq_same hq s1)) (pg_name sc_57.nd rfl (Or.inl rfl)) fun pq H2 s2 hpq => ?_)
  refine ⟨fun i σ' H' => Same H2 H' ∧ ∃ (n : Int) (y : Option V), σ' = [some (V.ref a), some (.int n), y], ⟨.refl _, 7, none, rfl⟩, fun i σ' H' _ hP => .of hP.1, fun i dd σ' H' x H3 hdd hP s3 im => ?_, fun σ' H' hP => ?_⟩
  · obtain ⟨hs, n, y, rfl⟩ := hP
    rw [List.getElem?_map] at hdd
    cases hc : ns[i]? with
    | none => rw [hc] at hdd; cases hdd
    | some c =>
      rw [hc] at hdd
      cases hdd
      cases im
      show WSs _ _ _ [some (V.ref a), some (.int n), some (.int c)] H3
      have S3 := (SL H3 n (some (.int c))).add 2 (r := .d (.int c)) rfl (.int _)
      refine wss_one (ws_set 1 sc_57.nd S3 (pu_mod (pu_intI M (pu_add (pu_mul (pu_var 1) pu_int (.inr ⟨by decide, by decide⟩)) (pu_var 2))) pu_int (by decide)) fun v4 H4 s4 a4 => ?_)
      cases a4
      exact ⟨(hs.trans s3).trans s4, _, some (.int c), rfl⟩
  · obtain ⟨hs, n, y, rfl⟩ := hP
    have s02 := (s1.trans s2).trans hs
    have SE := SL H' n y
    refine wss_one (ws_retW (we_lst (wa_cons (we_pu SE (pu_int (i := 0)) fun v3 H3 s3 a3 => wa_cons (we_pu (SE.mono s3) (pu_int (i := 0)) fun v4 H4 s4 a4 => wa_cons (we_pu ((SE.mono s3).mono s4) (pu_var 1) fun v5 H5 s5 a5 => wa_cons (we_listSq M (we_name 0 rfl ⟨a, ns.map V.int, rfl, sq_same hq (((s02.trans s3).trans s4).trans s5), fun il hil => ?_⟩))))))))
    cases a3; cases a4; cases a5
    have s05 := ((s02.trans s3).trans s4).trans s5
    refine wa_cons (we_pu ((((SE.mono s3).mono s4).mono s5).mono (same_new hil)) (pu_int (i := 0)) fun v6 H6 s6 a6 => wa_nil ⟨by show 5 ≤ sizeLine; decide, fun d hd => ?_⟩)
    cases a6
    have hne : il ≠ d := ne_of_none (s6 _ _ upd_same) hd
    refine q' d il _ ((s05.trans ((same_new hil).trans s6)).free hd) (s05.free hil) ((s05.trans ((same_new hil).trans s6)).trans (same_new hd)) ⟨hne.symm, 0, 0, n, 0, by decide, upd_same, ?_⟩
    rw [upd_ne hne]
    exact s6 _ _ upd_same
end
end K47
/-! P22: comprehensions over range(..) whose elements change the heap -/
namespace K47
open PySem PySem.Spec PyProof.Rows L2
/-- [elt for x in range(e)], elt by WE; x at slot k; Pv: by the turn, what is collected, the heap -/
theorem we_lcR {X : Cx} {σ : L2.St} {H : Hp} {e elt : Expr} {x : Str} {xp p rp pos : Pos} {scope : Scope} {Q : VK} (N : List Str) (sc : Scope) (k : Nat) (M : Mg X.mg) (hnd : N.Nodup)
    (h : WE X e σ H fun v H1 => ∃ n : Nat, v = .int (n : Nat) ∧ n ≤ 10000 ∧ ∀ D, H1 D = none → ∃ Pv : Nat → List V → Hp → Prop, Pv 0 [] (upd H1 D (.lst [])) ∧
      (∀ (i : Nat) (acc : List V) (H' : Hp), i < n → Pv i acc H' → acc.length = i ∧ ∀ s0 H0 C cl fp, WE (Blk X scope s0 H0 C cl fp) elt ((L2.wipe σ [k]).set k (some (.int (i : Nat)))) H' fun y H2 => H2 D = some (.lst acc) ∧ Pv (i + 1) (acc ++ [y]) (upd H2 D (.lst (acc ++ [y])))) ∧
      ∀ acc H', Pv n acc H' → Q (.ref D) H')
    (hblk : blkC N sc scope [(x, k)] = true := by decide +kernel) (hXN : X.N = N := by rfl) (hXs : X.env.scope = sc := by rfl) (hc : X.calm = true := by rfl)
    (hNk : X.N[k]? = some x := by rfl) (hlo : ∀ s H C cl fp, (Blk X scope s H C cl fp).env.scope.names.lookup x = some .local := by exact fun _ _ _ _ _ => rfl) (hg : Gl X "range" := by rfl) (hst : starEach [e] X.env = [(false, eval e X.env)] := by rfl)
    (hs : ∀ z, foldedSetIterable (.Call (.Name "range" p) [e] [] rp) X.env z = pure z := by intro _; rfl) :
    WE X (.ListComp elt [⟨.Name x xp, .Call (.Name "range" p) [e] [] rp, [], 0⟩] scope pos) σ H Q := by
  refine we_of (pe_lcOf (own := [(x, k)]) (g := gName k) hc (by rw [hXN]; exact hnd) (pi_range1 hg M.range pa_wa hst) (by rw [hXN, hXs]; exact blkOk_by hblk) (fun s H C cl fp => pg_name (by show X.N.Nodup; rw [hXN]; exact hnd) hNk (Or.inl (hlo s H C cl fp)) (.inr (hlo s H C cl fp))) hs) ?_
  refine wa_cons (h.mono fun v H1 ⟨n, ev, hn, hD⟩ => wa_nil ⟨n, by rw [ev], by omega, by omega, fun D hDn => ?_⟩) hst
  obtain ⟨Pv, h0, hb, hd⟩ := hD D hDn
  have en : ((n : Nat) : Int).toNat = n := by simp
  rw [en]
  refine lc_it (g := gName k) (tt := ttOf X scope []) (te := teOf X scope elt) (vs := [k]) (σ := σ) (H1 := H1) (D := D) (Qd := fun H => Q (.ref D) H) walk_range (fun i H' => ∃ acc, Pv i acc H') ⟨[], h0⟩ (fun _ _ _ _ => trivial) ?_ (fun H' ⟨acc, hP⟩ => hd acc H' hP)
  intro i y H2 H3 hi ⟨acc, hP⟩ hy
  obtain ⟨e1, e2⟩ := hy
  subst e1 e2
  have e0 : (0 : Int) + ((i : Nat) : Int) = ((i : Nat) : Int) := by omega
  show L2.wipe ((L2.wipe σ [k]).set k (some (.int (0 + ((i : Nat) : Int))))) [k] = L2.wipe σ [k] ∧ _
  rw [e0]
  obtain ⟨hla, hE⟩ := hb i acc H3 hi hP
  refine ⟨by rw [wipe_set (by simp), wipe_wipe], ?_⟩
  have key : teOf X scope elt ((L2.wipe σ [k]).set k (some (.int ((i : Nat) : Int)))) H3 fun y H4 => ∃ acc, H4 D = some (.lst acc) ∧ acc.length < sizeLine ∧ ∃ acc', Pv (i + 1) acc' (upd H4 D (.lst (acc ++ [y]))) := fun s0 H0 C cl fp =>
    (hE s0 H0 C cl fp).mono fun y H4 ⟨h1, h2⟩ => ⟨acc, h1, by rw [hla]; exact Nat.lt_of_lt_of_le hi (Nat.le_trans hn (by decide)), acc ++ [y], h2⟩
  have key0 : teOf X scope elt ((L2.wipe σ [k]).set k (some (.int (0 + ((i : Nat) : Int))))) H3 fun y H4 => ∃ acc, H4 D = some (.lst acc) ∧ acc.length < sizeLine ∧ ∃ acc', Pv (i + 1) acc' (upd H4 D (.lst (acc ++ [y]))) := by rw [e0]; exact key
  intro s0 H0 C cl fp
  exact fun pins s I => pts_nil.run pins s _ H3 _ I (by
    unfold tYes
    dsimp only
    exact Eq.mpr (if_pos rfl) key0)
end K47
/-! P23: xs.pop(i) -/
namespace K47
open PySem PySem.Spec PyProof.Rows L2
theorem we_popAt {X : Cx} {σ : L2.St} {H : Hp} {o e : Expr} {apos cpos : Pos} {Q : VK} (h : WE X o σ H fun u H1 => ∃ q, u = .ref q ∧ (∃ xs, H1 q = some (.lst xs)) ∧ WE X e σ H1 fun z H2 => ∃ (xs : List V) (n : Nat) (y : V), z = .int (n : Nat) ∧ H2 q = some (.lst xs) ∧ xs[n]? = some y ∧ n < 1000000 ∧ Q y (upd H2 q (.lst (xs.eraseIdx n))))
    (hbase : attributeBase o "pop" X.env (eval o X.env) = eval o X.env := by rfl)
    (hfew : ((backTo cpos (starEach [e] X.env)).all (fun x => !x.1) && (backToKw cpos (keywordEach [] X.env)).all (fun x => x.1.isSome)
      && decide ([e].length + ([] : List Keyword).length + (if ([] : List Keyword).isEmpty then 0 else 1) < 30)) = true := by rfl)
    (hline : (apos.endLine == cpos.line) = true := by rfl) (hs : starEach [e] X.env = [(false, eval e X.env)] := by rfl) : WE X (.Call (.Attribute o "pop" apos) [e] [] cpos) σ H Q :=
  we_of (pe_bm PySem.F.plainAttrs_list PySem.F.slot_list_pop PySem.F.type_list_pop mt_popAt pe_we (pa_cons pe_we pa_nil hs) hbase hfew hline hs) (h.mono fun u H1 ⟨q, e1, ⟨xs, hq⟩, h⟩ => by
    subst e1
    refine ⟨.inl ⟨rfl, xs, SqL.of hq⟩, h.mono fun z H2 ⟨xs, n, y, e2, h1, h2, h3, h4⟩ => ⟨q, xs, n, n, y, rfl, by rw [e2], h1, by omega, by omega, ?_, h2, h4⟩⟩
    have hl := (List.getElem?_eq_some_iff.mp h2).1
    have := seqIndex_of (k := (n : Int)) (n := xs.length) (by omega) (by omega)
    simpa using this)
end K47
/-! P24: xs.extend(ys) -/
namespace K47
open PySem PySem.Spec PyProof.Rows L2
/-- x.extend(e), x a name of slot i, e a new list -/
theorem ws_ext {X : Cx} {Γ : Gm} {σ : L2.St} {H : Hp} {D : Ends} {e : Expr} {x : Str} {pos apos cpos xp : Pos} {ds es : List PyData} (i : Nat) {q : Addr} (S : Sl H σ Γ) (hv : σ[i]? = some (some (.ref q))) (hq : Ls H q ds) (he : PuN X Γ e es) (hz : ds.length + es.length ≤ 100000)
    (k : ∀ H'', SameX q H H'' → Ls H'' q (ds ++ es) → D.nx σ H'') (hN : X.N[i]? = some x := by rfl)
    (hvis : Vis X.env.scope x := by first | exact Or.inl rfl | exact Or.inr (Or.inl rfl) | exact Or.inr (Or.inr rfl)) (hd : (x == ("__debug__" : Str)) = false := by decide) (hcd : (x == ("__classdict__" : Str)) = false := by decide)
    (hbase : attributeBase (.Name x xp) "extend" X.env (eval (.Name x xp) X.env) = eval (.Name x xp) X.env := by rfl)
    (hfew : ((backTo cpos (starEach [e] X.env)).all (fun x => !x.1) && (backToKw cpos (keywordEach [] X.env)).all (fun x => x.1.isSome)
      && decide ([e].length + ([] : List Keyword).length + (if ([] : List Keyword).isEmpty then 0 else 1) < 30)) = true := by rfl)
    (hline : (apos.endLine == cpos.line) = true := by rfl) (hs : starEach [e] X.env = [(false, eval e X.env)] := by rfl) (hsw : swapsWith (.Call (.Attribute (.Name x xp) "extend" apos) [e] [] cpos) none pos.line X.env = pure false := by rfl) :
    WS X (.Expr (.Call (.Attribute (.Name x xp) "extend" apos) [e] [] cpos) pos) D σ H := by
  obtain ⟨vs, h1, al⟩ := hq
  refine ws_of (ps_expr (pe_bm PySem.F.plainAttrs_list PySem.F.slot_list_extend PySem.F.type_list_extend mt_extend pe_we (pa_cons pe_we pa_nil hs) hbase hfew hline hs) hsw) (we_name i hv ⟨.inl ⟨rfl, vs, SqL.of h1⟩, he σ H S _ fun b H2 n2 s2 l2 => ?_⟩ hN hvis hd hcd)
  obtain ⟨zs, h3, al2⟩ := l2
  have tx : Tx H2 (upd H2 q (.lst (vs ++ zs))) := .mut (s2 _ _ h1) fun xs z => nomatch z
  refine ⟨q, b, vs, zs, rfl, rfl, s2 _ _ h1, h3, ?_, k _ ((SameX.of s2).trans .upd) ⟨_, upd_same, ((al.mono (.of s2)).append al2).mono tx⟩⟩
  rw [al.length, al2.length]
  exact Nat.le_trans hz (by decide)
end K47
/-! Q1: loops that collect, by what is known of the collection; slots -/
namespace K47
open PySem PySem.Spec PyProof.Rows L2
section
variable {X : Cx} {Γ Γ0 : Gm} {tg iter : Expr} {pos : Pos} {ds : List PyData} {Iq : Addr → Prop} {σ : L2.St} {H H0 : Hp} {g : TG} {body : List Stmt} {D : Ends} {W : List Nat}
theorem ws_accJ (f : Nat) {q : Addr} (J : Nat → List PyData → Prop) (W : List Nat) {ds0 : List PyData} (hsrc : SrcS X tg iter σ H ds Iq) (hIq : ∀ a, Iq a → (∃ o, H a = some o) ∨ H a = none → a ≠ q) (hg : PG X tg g) (s0 : Same H0 H) (hq0 : H0 q = none) (S0 : Sl H0 σ Γ0) (hf : σ[f]? = some (some (.ref q))) (hq : Ls H q ds0) (h0 : J 0 ds0) (hW : Bare Γ0 W) (hfW : f ∉ W)
    (hb : ∀ (i : Nat) (d : PyData), ds[i]? = some d → ∀ σ' H' x acc, J i acc → Same H0 H' → Sl H0 σ' Γ0 → wipe σ' W = wipe σ W → σ'[f]? = some (some (.ref q)) → Ls H' q acc → Im H' x d →
      ∀ N : L2.St → Hp → Prop, (∀ σ'' H'' acc', SameX q H' H'' → Ls H'' q acc' → J (i + 1) acc' → wipe σ'' W = wipe σ' W → N σ'' H'') → g x σ' H' fun σ2 H3 => WSs X body { D with nx := N, ct := N, bk := D.nx } σ2 H3)
    (hd : ∀ σ' H' acc, J ds.length acc → SameX q H H' → Same H0 H' → Ls H' q acc → wipe σ' W = wipe σ W → σ'[f]? = some (some (.ref q)) → Sl H0 σ' Γ0 → D.nx σ' H') (hp : PassesOwn (model X.prog X.w) X.A X.env X.xe := by exact PassesOwn.never) (hc : X.calm = true := by rfl) (hs : ∀ x, foldedSetIterable iter X.env x = pure x := by intro _; rfl) : WS X (.For tg iter body [] pos) D σ H := by
  refine ws_for hsrc hg (fun p H1 s1 hpq => ?_) hp hc hs
  have hq1 : Ls H1 q ds0 := hq.mono s1
  refine ⟨fun i σ' H' => SameX q H1 H' ∧ (∃ acc, J i acc ∧ Ls H' q acc) ∧ wipe σ' W = wipe σ W, ⟨.refl _ _, ⟨ds0, h0, hq1⟩, rfl⟩, fun i σ' H' _ h => h.1.gk hq1 fun a e => ?_, fun i d σ' H' x H2 hd hP s3 im => ?_, fun σ' H' hP => ?_⟩
  · obtain ⟨h1, _⟩ := hpq a e
    refine hIq a h1 ?_
    cases H a with
    | none => exact .inr rfl
    | some o => exact .inl ⟨o, rfl⟩
  · have x2 : SameX q H H2 := (SameX.of s1).trans (hP.1.trans (.of s3))
    obtain ⟨acc, hJ, hl⟩ := hP.2.1
    have im2 : wipe σ' W = wipe σ W := hP.2.2
    have hfs : σ'[f]? = some (some (.ref q)) := by rw [wipe_get im2 hfW]; exact hf
    exact hb i d hd σ' H2 x acc hJ (x2.base s0 hq0) (S0.wiped im2 hW) im2 hfs (hl.mono s3) im _ fun σ'' H'' acc' a b j c => ⟨hP.1.trans ((SameX.of s3).trans a), ⟨acc', j, b⟩, c.trans im2⟩
  · obtain ⟨hx, ⟨acc, hJ, hl⟩, hw⟩ := hP
    have x2 : SameX q H H' := (SameX.of s1).trans hx
    exact hd σ' H' acc hJ x2 (x2.base s0 hq0) hl hw (by rw [wipe_get hw hfW]; exact hf) (S0.wiped hw hW)
end
theorem DK.mono {H H' : Hp} {d il : Addr} {ns : List Int} (h : DK H d il ns) (s : Same H H') : DK H' d il ns := by
  obtain ⟨n, c, p, sd, k, hp, h1, h2⟩ := h
  exact ⟨n, c, p, sd, k, hp, s _ _ h1, s _ _ h2⟩
theorem DK.ne_none {H : Hp} {d il : Addr} {ns : List Int} (h : DK H d il ns) : H d ≠ none ∧ H il ≠ none := by
  obtain ⟨n, c, p, sd, k, hp, h1, h2⟩ := h
  refine ⟨?_, ?_⟩
  · rw [h1]; exact fun z => nomatch z
  · rw [h2]; exact fun z => nomatch z
/-- the deck stays where an other list is written -/
theorem DK.x {H H' : Hp} {d il q : Addr} {ns : List Int} (h : DK H d il ns) (s : SameX q H H') (h1 : d ≠ q) (h2 : il ≠ q) : DK H' d il ns := by
  obtain ⟨n, c, p, sd, k, hp, e1, e2⟩ := h
  exact ⟨n, c, p, sd, k, hp, s _ _ h1 e1, s _ _ h2 e2⟩
/-- what was cut out of a list -/
theorem cut_sub {α : Type} (f : α → PyData) (xs : List α) (lo hi : Option Int) : ∃ ys : List α, cutD (xs.map f) lo hi = ys.map f ∧ (∀ y ∈ ys, y ∈ xs) ∧ ys.length ≤ xs.length := by
  refine ⟨(xs.drop (HT.sIx xs.length 0 lo)).take (HT.sIx xs.length xs.length hi - HT.sIx xs.length 0 lo), ?_, fun y hy => List.mem_of_mem_drop (List.mem_of_mem_take hy), ?_⟩
  · unfold cutD
    rw [List.length_map, ← List.map_drop, ← List.map_take]
  · have h1 := List.length_take_le (HT.sIx xs.length xs.length hi - HT.sIx xs.length 0 lo) (xs.drop (HT.sIx xs.length 0 lo))
    have h2 : ((xs.drop (HT.sIx xs.length 0 lo)).take (HT.sIx xs.length xs.length hi - HT.sIx xs.length 0 lo)).length ≤ (xs.drop (HT.sIx xs.length 0 lo)).length := by rw [List.length_take]; omega
    rw [List.length_drop] at h2
    omega
theorem eS_inj {a b : Sim} (h : eS a = eS b) : a = b := by
  have h : a.map PyData.int = b.map PyData.int := by injection h
  exact (List.map_inj_right (fun x y z => by injection z)).mp h
theorem map_inj_S {xs ys : List Sim} (h : xs.map eS = ys.map eS) : xs = ys := (List.map_inj_right (fun _ _ => eS_inj)).mp h
end K47
/-! Q2: _law_anew -/
namespace K47
open PySem PySem.Spec PyProof.Rows L2
/-- a simplex that could be there anew -/
def New (l : List Itm) (s : Sim) : Prop := s ∉ l.map (·.1) ∧ Sx s ∧ ∀ f ∈ fc s, f ∈ l.map (·.1)
instance (l : List Itm) (s : Sim) : Decidable (s ∉ l.map (·.1) ∧ ∀ f ∈ fc s, f ∈ l.map (·.1)) := inferInstance
def spAnew : Sp := fun vs H Q _ => ∃ (d il q : Addr) (ns : List Int) (l : List Itm), vs = [V.ref d, .ref q] ∧ DK H d il ns ∧ Ls H q (l.map eTI) ∧ VS l ∧
  (∀ (v : V) (s : Sim) H', Im H' v (eS s) → New l s → DK H' d il ns → Fr [d] H H' → Tx H H' → Q v H') ∧ (l ≠ [] → ∀ H', DK H' d il ns → Fr [d] H H' → Tx H H' → Q .non H')
/-- simplices of 0 .. 11, some n of them -/
def FS (l : List Itm) (n : Nat) (acc : List PyData) : Prop := ∃ fs : List Sim, acc = fs.map eS ∧ (∀ s ∈ fs, Sx s) ∧ fs.length ≤ n ∧ (l = [] → [0] ∈ fs)
theorem FS.app {l : List Itm} {n : Nat} {acc : List PyData} (h : FS l n acc) {xs : List Sim} {k : Nat} (hx : ∀ s ∈ xs, Sx s) (hk : xs.length ≤ k) : FS l (n + k) (acc ++ xs.map eS) := by
  obtain ⟨fs, rfl, h1, h2, h3⟩ := h
  refine ⟨fs ++ xs, by simp, fun s hs => ?_, by rw [List.length_append]; omega, fun e => List.mem_append.mpr (.inl (h3 e))⟩
  rcases List.mem_append.mp hs with z | z
  · exact h1 s z
  · exact hx s z
theorem FS.mono {l : List Itm} {n m : Nat} {acc : List PyData} (h : FS l n acc) (e : n ≤ m) : FS l m acc := by
  obtain ⟨fs, h0, h1, h2, h3⟩ := h
  exact ⟨fs, h0, h1, by omega, h3⟩
theorem FS.len {l : List Itm} {n : Nat} {acc : List PyData} (h : FS l n acc) : acc.length ≤ n := by
  obtain ⟨fs, rfl, _, h2, _⟩ := h
  rw [List.length_map]; exact h2
section
variable {P : Program} {w : World} {K : PySem.W.Frag} {mg : Str → Option Value} {base : Heap}
abbrev N69 : List Str := ["_law_deck_here", "_law_items", "_law_there", "_law_names", "_law_found", "_law_one", "_law_other", "_law_simplex", "_law_good", "_law_height", "_law_name", "_law_face"]
theorem sc_69 : FnScope N69 ["_law_deck_here", "_law_items"] (defScope (top 69)) := ⟨rfl, rfl, rfl, by decide +kernel, rfl, by decide +kernel, by decide +kernel⟩
theorem ok_lanew (M : Mg mg) (S : Stands K mg "_law_anew" 69) (DF : Df0 P w K mg base "_law_faces" 1 (spN rLFac)) (DD : Df0 P w K mg base "_law_draw" 1 spDraw) : Df0 P w K mg base "_law_anew" 2 spAnew := by
  refine mk_def S sc_69 (fun vs H Q E h => by obtain ⟨_, _, _, _, _, rfl, _⟩ := h; rfl) (fun _ _ _ _ _ _ us hl => match us, hl with | [_, _], _ => rfl) fun f cdv A outer s H vs Q E hr h => ?_
  obtain ⟨d, il, q, ns, l, rfl, hDK, hl, VV, qs, qn⟩ := h
  have hu : (A.deeper (envOfC "_law_anew" (defScope (top 69)) s.heap.objs.size f cdv)).units + 65 < cLine := by have := hr.un; omega
  have hu64 : (A.deeper (envOfC "_law_anew" (defScope (top 69)) s.heap.objs.size f cdv)).units + 64 < cLine := by omega
  have hlen := VV.len
  have hv : L2.start N69 [V.ref d, .ref q] = [some (.ref d), some (.ref q), none, none, none, none, none, none, none, none, none, none] := rfl
  rw [hv]
  have S0 : Sl H [some (V.ref d), some (.ref q), none, none, none, none, none, none, none, none, none, none] [none, some (.l (l.map eTI)), none, none, none, none, none, none, none, none, none, none] := ⟨rfl, fun i r z => by
    match i with
    | 0 => cases z
    | 1 => cases z; exact ⟨_, rfl, q, rfl, hl⟩
    | 2 => cases z
    | 3 => cases z
    | 4 => cases z
    | 5 => cases z
    | 6 => cases z
    | 7 => cases z
    | 8 => cases z
    | 9 => cases z
    | 10 => cases z
    | 11 => cases z
    | i + 12 => cases z⟩
  have hs69 : ∀ p ∈ l.map (·.1), Sx p := fun p hp => by
    obtain ⟨z, hz, rfl⟩ := List.mem_map.mp hp
    exact VV.sx z hz
  generalize eth : l.map (·.1) = th at hs69
  have hthl : th.length ≤ 60 := by rw [← eth, List.length_map]; exact hlen
  -- there
  refine wss_cons (ws_setN 2 sc_69.nd S0 ((lcd2a (xs := l) (enc := eTI) (own := [("_law_simplex", 7), ("_law_height", 9)]) (g := g2 K 7 9) N69 (defScope (top 69)) (fun p => [none, some (.l (l.map eTI)), none, none, none, none, none, some (.d (eS p.1)), none, some (.d (.int p.2)), none, none]) (fun p => eS p.1) (src_list (pu_var 1)) sc_69.nd (by omega)
    (fun _ _ _ _ _ => pg_2 7 9 sc_69.nd) (fun p _ => gd_2) (fun p _ _ _ _ _ _ => pu_var 7)).to (ds' := th.map eS) (by rw [← eth, List.map_map]; rfl)).pun fun a2 H1 n1 s1 l1 => ?_)
  show WSs _ _ _ [some (V.ref d), some (.ref q), some (.ref a2), none, none, none, none, none, none, none, none, none] H1
  have S1 : Sl H1 [some (V.ref d), some (.ref q), some (.ref a2), none, none, none, none, none, none, none, none, none] [none, some (.l (l.map eTI)), some (.l (th.map eS)), none, none, none, none, none, none, none, none, none] := (S0.mono s1).set 2 (r := .l (th.map eS)) ⟨a2, rfl, l1⟩
  -- names
  refine wss_cons (ws_setN 3 sc_69.nd S1 ((lcd1 (xs := th) (enc := eS) N69 (defScope (top 69)) 7 (fun s => decide ((s.length : Int) = 1)) (fun s => PyData.int (s.headD 0)) (src_list (pu_var 2)) sc_69.nd (by omega)
    (fun y _ _ _ _ _ _ => .one ((put_cmp op_eq rv_eqI (by rfl) (pu_lenT M (pu_var 7)) pu_int).to (by rw [List.length_map]))) (fun y hy hp _ _ _ _ _ => pu_ixT (pu_var 7) pu_int (atI_nat' (n := 0) ?_ rfl))).to (ds' := ((th.filter fun s => decide ((s.length : Int) = 1)).map fun s => s.headD 0).map .int) (by rw [List.map_map]; rfl)).pun fun a3 H2 n2 s2 l2 => ?_)
  · cases y with
    | nil => simp at hp
    | cons a r => rfl
  have hnm : l = [] → ((th.filter fun s => decide ((s.length : Int) = 1)).map fun s => s.headD 0) = [] := fun e => by subst e; subst eth; rfl
  generalize ((th.filter fun s => decide ((s.length : Int) = 1)).map fun s => s.headD 0) = nms at l2 hnm
  show WSs _ _ _ [some (V.ref d), some (.ref q), some (.ref a2), some (.ref a3), none, none, none, none, none, none, none, none] H2
  have S2 : Sl H2 [some (V.ref d), some (.ref q), some (.ref a2), some (.ref a3), none, none, none, none, none, none, none, none] [none, some (.l (l.map eTI)), some (.l (th.map eS)), some (.l (nms.map .int)), none, none, none, none, none, none, none, none] := (S1.mono s2).set 3 (r := .l (nms.map .int)) ⟨a3, rfl, l2⟩
  -- found
  refine wss_cons (ws_setN 4 sc_69.nd S2 (pun_slL ((lcd1 (xs := List.range 12) (enc := fun i => PyData.int (0 + (i : Nat))) N69 (defScope (top 69)) 10 (fun i => !decide ((0 + (i : Nat) : Int) ∈ nms)) (fun i => eS [0 + (i : Nat)]) ((src_rng1 M (pu_int (i := 12)) (by decide)).to (by rfl)) sc_69.nd (by decide)
    (fun y _ _ _ _ _ _ => .one (put_cmp op_notIn_seq rv_ninL (by rfl) (pu_var 10) (pu_var 3))) (fun y _ _ _ _ _ _ _ => (pu_tup (ds := [.int (0 + (y : Nat))]) (pua_cons (pu_var 10) pua_nil)).to rfl)).to (ds' := (((List.range 12).filter fun i => !decide ((0 + (i : Nat) : Int) ∈ nms)).map fun i => [(0 + (i : Nat) : Int)]).map eS) (by rw [List.map_map]; rfl)).pun.pu puo_none (puo_some (pu_int (i := 3)))) fun a4 H3 n3 s3 l3 => ?_)
  have F3 : FS l 12 (cutD ((((List.range 12).filter fun i => !decide ((0 + (i : Nat) : Int) ∈ nms)).map fun i => [(0 + (i : Nat) : Int)]).map eS) none (some 3)) := by
    obtain ⟨ys, e1, e2, e3⟩ := cut_sub eS (((List.range 12).filter fun i => !decide ((0 + (i : Nat) : Int) ∈ nms)).map fun i => [(0 + (i : Nat) : Int)]) none (some 3)
    refine ⟨ys, e1, fun s hs => ?_, ?_, fun e => ?_⟩
    · obtain ⟨i, hi, rfl⟩ := List.mem_map.mp (e2 s hs)
      have := List.mem_range.mp (List.mem_filter.mp hi).1
      exact .one _ (by omega) (by omega)
    · have h1 := List.length_filter_le (fun i => !decide ((0 + (i : Nat) : Int) ∈ nms)) (List.range 12)
      rw [List.length_map] at e3
      rw [List.length_range] at h1
      omega
    · rw [hnm e] at e1
      have h4 : cutD ((((List.range 12).filter fun i => !decide ((0 + (i : Nat) : Int) ∈ ([] : List Int))).map fun i => [(0 + (i : Nat) : Int)]).map eS) none (some 3) = [[0], [1], [2]].map eS := by rfl
      rw [h4] at e1
      have h5 : [[0], [1], [2]] = ys := map_inj_S e1
      rw [← h5]; simp
  generalize cutD ((((List.range 12).filter fun i => !decide ((0 + (i : Nat) : Int) ∈ nms)).map fun i => [(0 + (i : Nat) : Int)]).map eS) none (some 3) = fd0 at l3 F3
  show WSs _ _ _ [some (V.ref d), some (.ref q), some (.ref a2), some (.ref a3), some (.ref a4), none, none, none, none, none, none, none] H3
  have S3 : Sl H2 [some (V.ref d), some (.ref q), some (.ref a2), some (.ref a3), some (.ref a4), none, none, none, none, none, none, none] [none, some (.l (l.map eTI)), some (.l (th.map eS)), some (.l (nms.map .int)), none, none, none, none, none, none, none, none] := S2.set0 4
  have d02 := s1.trans s2
  -- for one, for other: found.append((one, other))
  refine wss_cons (ws_accJ (Iq := fun _ => False) (g := gName 5) 4 (fun i acc => FS l (12 + i * 12) acc) [5, 6, 7, 8, 9, 10, 11] (srcS_rng1 M (S3.mono s3) (pu_int (i := 12)) (by decide)) (fun b hb _ => hb.elim) (pg_name sc_69.nd rfl (Or.inl rfl)) s3 n3 S3 rfl l3 F3 bare_of (by decide) ?_ ?_)
  · intro i dd hd σ' H' x acc hJ sH SH hw hf hl' im N hN
    have hi : i < 12 := by
      have := (List.getElem?_eq_some_iff.mp hd).1
      rw [rngD_len] at this; simpa using this
    rw [rngD_at (by simpa using hi)] at hd
    cases hd
    cases im
    show WSs _ _ _ (σ'.set 5 (some (V.int (0 + (i : Nat))))) H'
    have S5 := SH.set 5 (r := .d (.int (0 + (i : Nat)))) (.int (0 + (i : Nat)))
    have w5 : wipe (σ'.set 5 (some (V.int (0 + (i : Nat))))) [5, 6, 7, 8, 9, 10, 11] = wipe σ' [5, 6, 7, 8, 9, 10, 11] := wipe_set (by simp)
    refine wss_one (ws_accJ (Iq := fun _ => False) (g := gName 6) 4 (fun k acc => FS l (12 + i * 12 + k) acc) [6] (srcS_rng2 M (S5.mono sH) (pu_add (pu_var 5) pu_int) (pu_int (i := 12)) (by omega)) (fun b hb _ => hb.elim) (pg_name sc_69.nd rfl (Or.inl rfl)) sH n3 S5 (by rw [List.getElem?_set_ne (by decide)]; exact hf) hl' hJ bare_of (by decide) ?_ ?_)
    · intro k dd hd σ2 H4 x acc2 hJ2 sH2 SH2 hw2 hf2 hl2 im N2 hN2
      have hk : k < (12 - (0 + (i : Nat) + 1) : Int).toNat := by
        have := (List.getElem?_eq_some_iff.mp hd).1
        rw [rngD_len] at this; simpa using this
      rw [rngD_at hk] at hd
      cases hd
      cases im
      show WSs _ _ _ (σ2.set 6 (some (V.int (0 + (i : Nat) + 1 + (k : Nat))))) H4
      have S6 := SH2.set 6 (r := .d (.int (0 + (i : Nat) + 1 + (k : Nat)))) (.int _)
      refine wss_one (ws_app 4 (S6.mono sH2) (by rw [List.getElem?_set_ne (by decide)]; exact hf2) hl2 (d := eS [0 + (i : Nat), 0 + (i : Nat) + 1 + (k : Nat)]) ((pu_tup (ds := [.int (0 + (i : Nat)), .int (0 + (i : Nat) + 1 + (k : Nat))]) (pua_cons (pu_var 5) (pua_cons (pu_var 6) pua_nil))).to rfl) (by have := hJ2.len; omega) fun H5 x5 l5 => hN2 _ _ _ x5 l5 ?_ (wipe_set (by simp)))
      exact hJ2.app (xs := [[0 + (i : Nat), 0 + (i : Nat) + 1 + (k : Nat)]]) (k := 1) (fun s hs => by rw [List.mem_singleton.mp hs]; exact .two _ _ (by omega) (by omega) (by omega)) (by simp)
    · intro σ2 H4 acc2 hJ2 x4 _ hl4 hw4 _ _
      refine hN _ _ _ x4 hl4 (hJ2.mono ?_) ((wipe_sub hw4 (by simp)).trans w5)
      rw [rngD_len]; omega
  intro σ4 H4 fd1 hJ4 x4 s4 l4 w4 hf4 S4
  rw [rngD_len] at hJ4
  -- for simplex in there: found.extend(..)
  have v42 : σ4[2]? = some (some (V.ref a2)) := by rw [wipe_get w4 (by decide)]; rfl
  have l24 : Ls H4 a2 (th.map eS) := l1.mono (s2.trans s4)
  have na2 : a2 ≠ a4 := fun e => by subst e; exact ls_not_none (l1.mono s2) n3
  refine wss_cons (ws_accJ (Iq := fun b => b = a2) (g := gName 7) 4 (fun i acc => FS l (156 + i * 12) acc) [5, 6, 7, 8, 9, 10, 11] (srcS_var 2 v42 l24) (fun b hb _ => by subst hb; exact na2) (pg_name sc_69.nd rfl (Or.inr rfl)) s4 n3 S4 hf4 l4 (hJ4.mono (by simp)) bare_of (by decide) ?_ ?_)
  · intro i dd hd σ' H' x acc hJ sH SH hw hf hl' im N hN
    rw [List.getElem?_map] at hd
    cases hti : th[i]? with
    | none => rw [hti] at hd; cases hd
    | some t =>
      rw [hti] at hd
      cases hd
      have htm : t ∈ th := List.mem_of_getElem? hti
      have hsx := hs69 t htm
      show WSs _ _ _ (σ'.set 7 (some x)) H'
      have S7 := (SH.mono sH).set 7 (r := .d (eS t)) im
      have w7 : wipe (σ'.set 7 (some x)) [5, 6, 7, 8, 9, 10, 11] = wipe σ' [5, 6, 7, 8, 9, 10, 11] := wipe_set (by simp)
      refine wss_one (ws_if S7 ((put_cmp op_eq rv_eqI (by rfl) (pu_lenT M (pu_var 7)) (pu_int (i := 2))).to (r' := decide ((t.length : Int) = 2)) (by rw [List.length_map])) (fun h2 H5 s5 => ?_) fun _ H5 s5 => wss_nil (hN _ _ _ (.of s5) (hl'.mono s5) (hJ.mono (by omega)) w7))
      have h2 : (t.length : Int) = 2 := of_decide_eq_true h2
      obtain ⟨a, b, rfl⟩ : ∃ a b, t = [a, b] := by
        match t, h2 with
        | [a, b], _ => exact ⟨a, b, rfl⟩
        | [], h => simp at h
        | [_], h => simp at h
        | _ :: _ :: _ :: _, h => simp at h; omega
      have hab : 0 ≤ a ∧ a < b ∧ b ≤ 11 := by cases hsx; exact ⟨by assumption, by assumption, by assumption⟩
      refine wss_one (ws_ext (ds := acc) (es := ((List.range (12 - (b + 1)).toNat).map fun (k : Nat) => [a, b, b + 1 + (k : Int)]).map eS) 4 (S7.mono s5) (by rw [List.getElem?_set_ne (by decide)]; exact hf) (hl'.mono s5) ((lcd1a (xs := List.range (12 - (b + 1)).toNat) (enc := fun k => PyData.int (b + 1 + (k : Nat))) N69 (defScope (top 69)) 10 (fun k => eS [a, b, b + 1 + (k : Nat)])
        ((src_rng2 M (pu_add (pu_ixT (pu_var 7) pu_int (atI_nat' (n := 1) (x := PyData.int b) rfl rfl)) pu_int) (pu_int (i := 12)) (by omega)).to rfl) sc_69.nd (by rw [List.length_range]; omega) (fun k _ _ _ _ _ _ => (pu_catT (pu_var 7) (pu_tup (ds := [.int (b + 1 + (k : Nat))]) (pua_cons (pu_var 10) pua_nil)) (by simp)).to rfl)).to (by rw [List.map_map]; rfl)).pun ?_ fun H6 x6 l6 => hN _ _ _ ((SameX.of s5).trans x6) l6 ?_ w7)
      · have := hJ.len
        have hi : i < th.length := (List.getElem?_eq_some_iff.mp hti).1
        simp; omega
      · exact (hJ.app (k := 12) (fun s hs => by
          obtain ⟨k, hk, rfl⟩ := List.mem_map.mp hs
          have := List.mem_range.mp hk
          exact .three _ _ _ (by omega) (by omega) (by omega) (by omega)) (by simp; omega)).mono (by omega)
  intro σ5 H5 fd2 hJ5 x5 s5 l5 w5 hf5 S5
  obtain ⟨fs, rfl, hsx, hfl, hf0⟩ := hJ5
  rw [List.length_map] at hfl
  -- good = []
  have h5 : σ5.length = 12 := S5.len.symm
  have S5' := (S5.mono s5).add 4 (r := .l (fs.map eS)) hf5 ⟨a4, rfl, l5⟩
  have w5' := w5.trans w4
  refine wss_cons (ws_setN 8 sc_69.nd S5' (pun_lst (ds := []) pua_nil) fun a8 H6 n6 s6 l6 => ?_)
  have S6 := S5'.set0 (v := .ref a8) 8
  have hf6 : (σ5.set 8 (some (V.ref a8)))[8]? = some (some (V.ref a8)) := List.getElem?_set_self (by omega)
  have v64 : (σ5.set 8 (some (V.ref a8)))[4]? = some (some (V.ref a4)) := by rw [List.getElem?_set_ne (by decide)]; exact hf5
  have v60 : (σ5.set 8 (some (V.ref a8)))[0]? = some (some (V.ref d)) := by rw [List.getElem?_set_ne (by decide), wipe_get w5' (by decide)]; rfl
  have n48 : a4 ≠ a8 := fun e => by subst e; exact ls_not_none l5 n6
  generalize σ5.set 8 (some (V.ref a8)) = σ6 at S6 hf6 v64 v60
  have s06 : Same H H5 := d02.trans s5
  refine wss_cons (ws_accJ (Iq := fun b => b = a4) (g := gName 7) 8 (fun i acc => ∃ gs : List Sim, acc = gs.map eS ∧ gs.length ≤ i ∧ (∀ s ∈ gs, New l s) ∧ (l = [] → [0] ∈ fs.take i → gs ≠ [])) [7, 9, 10, 11] (srcS_var 4 v64 (l5.mono s6)) (fun b hb _ => by subst hb; exact n48) (pg_name sc_69.nd rfl (Or.inr rfl)) s6 n6 S6 hf6 l6 ⟨[], rfl, Nat.le_refl _, (fun s hs => nomatch hs), fun _ h => by simp at h⟩ bare_of (by decide) ?_ ?_)
  · intro i dd hd σ' H' x acc hJ sH SH hw hf hl' im N hN
    rw [List.getElem?_map] at hd
    cases hti : fs[i]? with
    | none => rw [hti] at hd; cases hd
    | some t =>
      rw [hti] at hd
      cases hd
      have hi : i < fs.length := (List.getElem?_eq_some_iff.mp hti).1
      have htm : t ∈ fs := List.mem_of_getElem? hti
      have ht := hsx t htm
      have tk : fs.take (i + 1) = fs.take i ++ [t] := by
        obtain ⟨h1, h2⟩ := List.getElem?_eq_some_iff.mp hti
        rw [List.take_succ_eq_append_getElem h1, h2]
      obtain ⟨gs, rfl, hgl, hgn, hge⟩ := hJ
      show WSs _ _ _ (σ'.set 7 (some x)) H'
      have S7 := (SH.mono sH).set 7 (r := .d (eS t)) im
      have w7 : wipe (σ'.set 7 (some x)) [7, 9, 10, 11] = wipe σ' [7, 9, 10, 11] := wipe_set (by simp)
      refine wss_one (ws_if (b := decide (t ∉ th) && (lf t).all fun f => decide (f ∈ th)) S7 ((PuB.t (pub_and (put_cmp (op_notInD hu) (rv_ninD (sh_S t) (sh_Ss th)) (by rfl) (pu_var 7) (pu_var 2)) fun _ => pub_and1 (pu_val (pu_all (bs := (lf t).map fun f => decide (f ∈ th)) M rfl ((lcd1a (xs := lf t) (enc := eS) N69 (defScope (top 69)) 11 (fun f => .bool (decide (f ∈ th))) (src_list (pun_call DF.df (hr.mono (by decide)) (pua_cons (pu_var 7) pua_nil) ⟨t, ht, rfl, rfl⟩).pu) sc_69.nd (by unfold lf; rw [List.length_reverse]; have := fc_len (s := t); omega)
        (fun f _ _ _ _ _ _ => (pu_cmp (op_inD hu) (rv_inD (sh_S f) (sh_Ss th)) (by rfl) (pu_var 11) (pu_var 2)).to (by rw [any_S]))).to map_bools).pun.pu)))).to (by rw [any_S, List.all_map]; simp)) (fun hc H7 s7 => ?_) fun hc H7 s7 => wss_nil (hN _ _ _ (.of s7) (hl'.mono s7) ⟨gs, rfl, by omega, hgn, fun e h => ?_⟩ w7))
      · simp only [Bool.and_eq_true, decide_eq_true_eq, List.all_eq_true] at hc
        refine wss_one (ws_app 8 (S7.mono s7) (by rw [List.getElem?_set_ne (by decide)]; exact hf) (hl'.mono s7) (d := eS t) (pu_var 7) (by rw [List.length_map]; omega) fun H8 x8 l8 => hN _ _ _ ((SameX.of s7).trans x8) l8 ⟨gs ++ [t], by simp, by simp; omega, fun s hs => ?_, fun _ _ => by simp⟩ w7)
        rcases List.mem_append.mp hs with z | z
        · exact hgn s z
        · rw [List.mem_singleton.mp z]
          exact ⟨by rw [eth]; exact hc.1, ht, fun f hf => by rw [eth]; exact hc.2 f (by unfold lf; simpa using hf)⟩
      · rw [tk] at h
        rcases List.mem_append.mp h with z | z
        · exact hge e z
        · exfalso
          have ez : [0] = t := List.mem_singleton.mp z
          have eth2 : th = [] := by rw [← eth, e]; rfl
          rw [eth2, ← ez] at hc
          revert hc
          decide
  intro σ7 H7 acc hJ7 x7 s7 l7 w7 hf7 S7
  obtain ⟨gs, rfl, hgl, hgn, hge⟩ := hJ7
  rw [List.length_map] at hgl hge
  have v70 : σ7[0]? = some (some (V.ref d)) := by rw [wipe_get w7 (by decide)]; exact v60
  have S7' := (S7.mono s7).add 8 (r := .l (gs.map eS)) hf7 ⟨a8, rfl, l7⟩
  have s07 : Same H H7 := s06.trans s7
  -- if good == []: return None
  refine wss_cons (ws_if (b := decide (gs = [])) S7' ((put_cmp (op_eqD hu64) (rv_eqL (sh_Ss gs) (sh_Ss [])) (by rfl) (pu_var 8) (pun_lst (ds := []) pua_nil).pu).to (by cases gs <;> simp [PyData.eqv, PyData.eqvAll])) (fun hc H8 s8 => ?_) fun hc H8 s8 => wss_nil ?_)
  · refine wss_one (ws_ret (S7'.mono s8) pu_non fun v H9 s9 a9 => ?_)
    cases a9
    have hc : gs = [] := of_decide_eq_true hc
    have s09 := s07.trans (s8.trans s9)
    refine qn (fun e => ?_) _ (hDK.mono s09) (.of s09) (.of s09)
    refine hge e ?_ hc
    rw [List.take_length]; exact hf0 e
  · have hc : gs ≠ [] := of_decide_eq_false hc
    have hgp : 0 < gs.length := List.length_pos_iff.mpr hc
    have s08 := s07.trans s8
    refine wss_one (ws_retW (we_ixL (we_name 8 hf7 (we_call DD.df (hr.mono (by decide)) (wa_cons (we_name 0 v70 (wa_cons (we_pu (S7'.mono s8) (pu_lenL M (pu_var 8)) fun v9 H9 s9 a9 => wa_nil fun E' => ?_))))))))
    cases a9
    rw [List.length_map]
    refine ⟨d, il, ns, _, rfl, hDK.mono (s08.trans s9), by omega, ?_, fun v H10 h1 h2 dk f10 t10 => ?_⟩
    · have : gs.length ≤ 2000 := by omega
      omega
    · have hlt : v.toNat < gs.length := by omega
      have lg : Ls H10 a8 (gs.map eS) := (l7.mono (s8.trans s9)).fr f10 (by simp; exact fun e => by subst e; exact (hDK.mono s06).ne_none.1 n6) t10
      obtain ⟨us, hu1, hu2⟩ := lg
      obtain ⟨u, hu3, hu4⟩ := hu2.get (i := v.toNat) (d := eS (gs[v.toNat])) (by rw [List.getElem?_map, List.getElem?_eq_getElem hlt]; rfl)
      exact ⟨a8, us, v, u, rfl, rfl, hu1, atI_nat' hu3 (by omega), qs u _ H10 hu4 (hgn _ (List.getElem_mem hlt)) dk ((Fr.of (s08.trans s9)).trans f10) ((Tx.of (s08.trans s9)).trans t10)⟩
end
end K47
/-! Q3: expressions that draw -/
namespace K47
open PySem PySem.Spec PyProof.Rows L2
section
variable {X : Cx} {σ : L2.St} {H : Hp} {a b c e : Expr} {pos p : Pos} {Q : VK} {body els : List Stmt} {D : Ends}
theorem ws_ifW (h : WT X c σ H fun b H' => if b = true then WSs X body D σ H' else WSs X els D σ H') : WS X (.If c body els pos) D σ H :=
  ws_of (ps_if pt_wt pss_wss pss_wss) (h.mono fun b H' z => by
    cases b with
    | true => exact z
    | false => exact z)
theorem we_op {op : Operator} {r : R2} (ho : OpR X (binaryOp op) r) (h : WE X a σ H fun x H1 => WE X b σ H1 fun y H2 => r x y H2 Q) : WE X (.BinOp a op b pos) σ H Q := we_of (pe_op ho pe_we pe_we) h
theorem wt_cmp {op : CmpOp} {r : R2} {QT : Bool → Hp → Prop} (ho : OpR X (compareOp op) r) (hm : behindInMarks op b = false) (h : WE X a σ H fun x H1 => WE X b σ H1 fun y H2 => r x y H2 fun z H3 => ∃ k, z = .bl k ∧ QT k H3) : WT X (.Compare a [op] [b] pos) σ H QT := wt_of (pt_cmpR ho pe_we pe_we hm) h
theorem wt_and {QT : Bool → Hp → Prop} (h : WT X a σ H fun k H1 => if k = true then WT X b σ H1 QT else QT false H1) : WT X (.BoolOp .And [a, b] pos) σ H QT := fun pins s I =>
  (wb_of (pw_and pt_wt (pw_and1 pt_wt)) (h.mono fun k H' z => by
    cases k with
    | true => exact z
    | false => exact z)) _ pins s I
theorem we_cB {id : String} {x : Str} {es : List Expr} {r : List V → Hp → VK → Prop} (hc : CallR X (.builtin id) r) (hm : X.mg x = none) (hv : bootBuiltins x = some (.builtin id)) (h : WA X (e :: es) σ H fun vs H1 => r vs H1 Q) (hg : Gl X x := by rfl)
    (hn : x ≠ "__name__" := by decide) (hdb : (x == ("__debug__" : Str)) = false := by decide) (he : starEach (e :: es) X.env = (false, eval e X.env) :: starEach es X.env := by rfl) (hpl : (backTo pos (starEach es X.env)).any (·.1) = false := by rfl) : WE X (.Call (.Name x p) (e :: es) [] pos) σ H Q :=
  we_of (pe_callB hc hg hm hv pa_wa hn hdb he hpl) h
end
/-- from H to H' only the deck changes -/
structure Dw (d il : Addr) (ns : List Int) (H H' : Hp) : Prop where
  dk : DK H' d il ns
  fr : Fr [d] H H'
  tx : Tx H H'
section
variable {d il : Addr} {ns : List Int} {H H1 H2 : Hp}
theorem Dw.same (h : DK H d il ns) (s : Same H H1) : Dw d il ns H H1 := ⟨h.mono s, .of s, .of s⟩
theorem Dw.trans (a : Dw d il ns H H1) (b : Dw d il ns H1 H2) : Dw d il ns H H2 := ⟨b.dk, a.fr.trans b.fr, a.tx.trans b.tx⟩
theorem Dw.step (a : Dw d il ns H H1) (s : Same H1 H2) : Dw d il ns H H2 := ⟨a.dk.mono s, a.fr.trans (.of s), a.tx.trans (.of s)⟩
theorem im_all_mem {ds : List PyData} {vs : List V} {v : V} (a : ImAll H vs ds) (h : v ∈ vs) : ∃ x, Im H v x := by
  obtain ⟨i, hi, e⟩ := List.mem_iff_getElem.mp h
  obtain ⟨x, _, r⟩ := a.get' (i := i) (v := v) (by rw [List.getElem?_eq_getElem hi, e])
  exact ⟨x, r⟩
theorem DK.nls (h : DK H d il ns) {ds : List PyData} (l : Ls H d ds) : False := by
  obtain ⟨hn, c, p, sd, k, hp, h1, h2⟩ := h
  obtain ⟨vs, e1, al⟩ := l
  rw [h1] at e1
  cases e1
  obtain ⟨x, r⟩ := im_all_mem al (v := .ref il) (by simp)
  cases r with
  | tup h3 _ => rw [h2] at h3; cases h3
/-- what stands away from the deck -/
def noX : Rs → Bool
  | .d _ => true
  | .l _ => true
  | .t _ => true
  | .k _ => true
  | .f _ _ r => noX r
  | .b r s => noX r && noX s
  | .x _ _ _ => false
theorem At.dw (w : Dw d il ns H H1) (h0 : DK H d il ns) : ∀ {r : Rs} {v : V}, noX r = true → At H v r → At H1 v r
  | .d x, v, _, h => Im.mono w.tx h
  | .l ds, v, _, h => by
    obtain ⟨a, rfl, l⟩ := h
    exact ⟨a, rfl, l.fr w.fr (by simp; exact fun e => by subst e; exact h0.nls l) w.tx⟩
  | .t kvs, v, _, h => by
    obtain ⟨a, rfl, l⟩ := h
    obtain ⟨hn, c, p, sd, k, hp, h1, h2⟩ := h0
    refine ⟨a, rfl, ?_⟩
    rcases l with l | ⟨o, l⟩
    · exact .inl (w.fr _ _ (by simp; exact fun e => by subst e; rw [h1] at l; cases l) l)
    · exact .inr ⟨o, w.fr _ _ (by simp; exact fun e => by subst e; rw [h1] at l; cases l) l⟩
  | .k kvs, v, _, h => by
    obtain ⟨a, rfl, l⟩ := h
    obtain ⟨hn, c, p, sd, k, hp, h1, h2⟩ := h0
    refine ⟨a, rfl, ?_⟩
    rcases l with l | ⟨o, l⟩
    · exact .inl (w.fr _ _ (by simp; exact fun e => by subst e; rw [h1] at l; cases l) l)
    · exact .inr ⟨o, w.fr _ _ (by simp; exact fun e => by subst e; rw [h1] at l; cases l) l⟩
  | .f C x r, v, hx, h => by
    obtain ⟨a, dx, fs, u, rfl, l, h3, h4⟩ := h
    have h00 := h0
    obtain ⟨hn, c, p, sd, k, hp, h1, h2⟩ := h0
    exact ⟨a, dx, fs, u, rfl, w.fr _ _ (by simp; exact fun e => by subst e; rw [h1] at l; cases l) l, h3, At.dw w h00 (r := r) hx h4⟩
  | .b r s, v, hx, h => by
    have hx : (noX r && noX s) = true := hx
    rw [Bool.and_eq_true] at hx
    exact ⟨At.dw w h0 hx.1 h.1, At.dw w h0 hx.2 h.2⟩
  | .x φ m k, v, hx, h => nomatch hx
def noXo : Option Rs → Bool
  | none => true
  | some r => noX r
theorem Sl.dw {σ : L2.St} {Γ : Gm} (S : Sl H σ Γ) (w : Dw d il ns H H1) (h0 : DK H d il ns) (h : Γ.all noXo = true) : Sl H1 σ Γ := ⟨S.len, fun i r e => by
  obtain ⟨v, h1, h2⟩ := S.at_ i r e
  have hm : noXo (some r) = true := List.all_eq_true.mp h _ (List.mem_of_getElem? e)
  exact ⟨v, h1, h2.dw w h0 hm⟩⟩
end
/-- e draws, and gives an int of which φ is known -/
def PuD (X : Cx) (Γ : Gm) (k : Nat) (d il : Addr) (ns : List Int) (e : Expr) (φ : Int → Prop) : Prop := ∀ (σ : L2.St) (H : Hp), Sl H σ Γ → σ[k]? = some (some (V.ref d)) → DK H d il ns → ∀ Q : VK, (∀ i H', φ i → Dw d il ns H H' → Q (.int i) H') → WE X e σ H Q
section
variable {X : Cx} {Γ : Gm} {k : Nat} {d il : Addr} {ns : List Int} {a b e : Expr} {pos p np : Pos} {φ ψ : Int → Prop}
theorem PuD.to {φ' : Int → Prop} (h : PuD X Γ k d il ns e φ) (q : ∀ i, φ i → φ' i) : PuD X Γ k d il ns e φ' := fun σ H S hv hd Q qq => h σ H S hv hd Q fun i H' hi w => qq i H' (q i hi) w
theorem pd_pu {i : Int} (h : Pu X Γ e (.d (.int i))) : PuD X Γ k d il ns e (· = i) := fun σ H S hv hd Q q => h σ H S _ fun v H' s av => by
  cases av
  exact q i H' rfl (.same hd s)
theorem pd_op {op : Operator} {r : R2} {f : Int → Int → Int} (hΓ : Γ.all noXo = true) (ho : OpR X (binaryOp op) r) (hr : ∀ (i j : Int) H Q, Q (V.int (f i j)) H → r (.int i) (.int j) H Q) (ha : PuD X Γ k d il ns a φ) (hb : PuD X Γ k d il ns b ψ) : PuD X Γ k d il ns (.BinOp a op b pos) (fun z => ∃ i j, φ i ∧ ψ j ∧ z = f i j) := fun σ H S hv hd Q q =>
  we_op ho (ha σ H S hv hd _ fun i H1 hi w1 => hb σ H1 (S.dw w1 hd hΓ) hv w1.dk _ fun j H2 hj w2 => hr i j H2 _ (q _ H2 ⟨i, j, hi, hj, rfl⟩ (w1.trans w2)))
theorem pd_add (hΓ : Γ.all noXo = true) (ha : PuD X Γ k d il ns a φ) (hb : PuD X Γ k d il ns b ψ) : PuD X Γ k d il ns (.BinOp a .Add b pos) (fun z => ∃ i j, φ i ∧ ψ j ∧ z = i + j) := pd_op hΓ op_add (fun i j H Q q => ⟨i, j, rfl, rfl, q⟩) ha hb
theorem pd_sub (hΓ : Γ.all noXo = true) (ha : PuD X Γ k d il ns a φ) (hb : PuD X Γ k d il ns b ψ) : PuD X Γ k d il ns (.BinOp a .Sub b pos) (fun z => ∃ i j, φ i ∧ ψ j ∧ z = i - j) := pd_op hΓ op_sub (fun i j H Q q => ⟨i, j, rfl, rfl, q⟩) ha hb
theorem pd_draw (DD : Df X "_law_draw" 1 spDraw) (hr : Room 1 X.A) (hΓ : Γ.all noXo = true) (he : PuD X Γ k d il ns e φ) (hb : ∀ i, φ i → 0 < i ∧ i < 1073741824) (hg : Gl X "_law_draw" := by rfl) (hN : X.N[k]? = some "_law_deck_here" := by rfl)
    (hvis : Vis X.env.scope "_law_deck_here" := by first | exact Or.inl rfl | exact Or.inr (Or.inl rfl) | exact Or.inr (Or.inr rfl)) (he1 : starEach [.Name "_law_deck_here" np, e] X.env = (false, eval (.Name "_law_deck_here" np) X.env) :: starEach [e] X.env := by rfl) (he2 : starEach [e] X.env = (false, eval e X.env) :: starEach [] X.env := by rfl)
    (hpl : (backTo pos (starEach [e] X.env)).any (·.1) = false := by rfl) : PuD X Γ k d il ns (.Call (.Name "_law_draw" p) [.Name "_law_deck_here" np, e] [] pos) (fun v => ∃ b, φ b ∧ 0 ≤ v ∧ v < b) := fun σ H S hv hd Q q =>
  we_call DD hr (wa_cons (we_name k hv (wa_cons (he σ H S hv hd _ fun i H1 hi w1 => wa_nil fun E' => ⟨d, il, ns, i, rfl, w1.dk, (hb i hi).1, (hb i hi).2, fun v H2 h1 h2 dk f2 t2 => q v H2 ⟨i, hi, h1, h2⟩ (w1.trans ⟨dk, f2, t2⟩)⟩) he2) hN hvis) he1) hg (he := he1) (hpl := hpl)
theorem pd_ix {xs : List Int} (hΓ : Γ.all noXo = true) (ha : Pu X Γ a (.l (xs.map .int))) (hb : PuD X Γ k d il ns b φ) (h : ∀ i, φ i → 0 ≤ i ∧ i < xs.length) (hs : PlainIx b := by exact fun _ _ => rfl) : PuD X Γ k d il ns (.Subscript a b pos) (fun z => z ∈ xs) := fun σ H S hv hd Q q =>
  we_ixL (ha σ H S _ fun v H1 s1 a1 => hb σ H1 (S.mono s1) hv (hd.mono s1) _ fun i H2 hi w2 => by
    have a2 := At.dw (r := .l (xs.map .int)) w2 (hd.mono s1) rfl a1
    obtain ⟨q', rfl, l⟩ := a2
    obtain ⟨h1, h2⟩ := h i hi
    have hlt : i.toNat < xs.length := by omega
    exact ⟨q', _, i, _, rfl, rfl, l.ints, atI_nat' (n := i.toNat) (by rw [List.getElem?_map, List.getElem?_eq_getElem hlt]; rfl) (by omega), q _ H2 (List.getElem_mem hlt) ((Dw.same hd s1).trans w2)⟩) hs
theorem pd_min2 (M : Mg X.mg) (hΓ : Γ.all noXo = true) (ha : PuD X Γ k d il ns a φ) (hb : PuD X Γ k d il ns b ψ) (hc : X.calm = true := by rfl) (hg : Gl X "min" := by rfl) (he : starEach [a, b] X.env = (false, eval a X.env) :: starEach [b] X.env := by rfl) (he2 : starEach [b] X.env = (false, eval b X.env) :: starEach [] X.env := by rfl) (hpl : (backTo pos (starEach [b] X.env)).any (·.1) = false := by rfl) :
    PuD X Γ k d il ns (.Call (.Name "min" p) [a, b] [] pos) (fun z => ∃ i j, φ i ∧ ψ j ∧ z = min i j) := fun σ H S hv hd Q q =>
  we_cB (call_min2 hc) M.min (by decide +kernel) (wa_cons (ha σ H S hv hd _ fun i H1 hi w1 => wa_cons (hb σ H1 (S.dw w1 hd hΓ) hv w1.dk _ fun j H2 hj w2 => wa_nil ⟨i, j, rfl, by
    have e : (if j < i then j else i) = min i j := by split <;> omega
    rw [e]; exact q _ H2 ⟨i, j, hi, hj, rfl⟩ (w1.trans w2)⟩) he2) he) hg (he := he) (hpl := hpl)
theorem pd_max2 (M : Mg X.mg) (hΓ : Γ.all noXo = true) (ha : PuD X Γ k d il ns a φ) (hb : PuD X Γ k d il ns b ψ) (hc : X.calm = true := by rfl) (hg : Gl X "max" := by rfl) (he : starEach [a, b] X.env = (false, eval a X.env) :: starEach [b] X.env := by rfl) (he2 : starEach [b] X.env = (false, eval b X.env) :: starEach [] X.env := by rfl) (hpl : (backTo pos (starEach [b] X.env)).any (·.1) = false := by rfl) :
    PuD X Γ k d il ns (.Call (.Name "max" p) [a, b] [] pos) (fun z => ∃ i j, φ i ∧ ψ j ∧ z = max i j) := fun σ H S hv hd Q q =>
  we_cB (call_max2 hc) M.max (by decide +kernel) (wa_cons (ha σ H S hv hd _ fun i H1 hi w1 => wa_cons (hb σ H1 (S.dw w1 hd hΓ) hv w1.dk _ fun j H2 hj w2 => wa_nil ⟨i, j, rfl, by
    have e : (if j > i then j else i) = max i j := by split <;> omega
    rw [e]; exact q _ H2 ⟨i, j, hi, hj, rfl⟩ (w1.trans w2)⟩) he2) he) hg (he := he) (hpl := hpl)
/-- draw(deck, b), b pure -/
theorem pd_drawP {i : Int} (DD : Df X "_law_draw" 1 spDraw) (hr : Room 1 X.A) (hΓ : Γ.all noXo = true) (he : Pu X Γ e (.d (.int i))) (h1 : 0 < i) (h2 : i < 1073741824) (hg : Gl X "_law_draw" := by rfl) (hN : X.N[k]? = some "_law_deck_here" := by rfl)
    (hvis : Vis X.env.scope "_law_deck_here" := by first | exact Or.inl rfl | exact Or.inr (Or.inl rfl) | exact Or.inr (Or.inr rfl)) (he1 : starEach [.Name "_law_deck_here" np, e] X.env = (false, eval (.Name "_law_deck_here" np) X.env) :: starEach [e] X.env := by rfl) (he2 : starEach [e] X.env = (false, eval e X.env) :: starEach [] X.env := by rfl)
    (hpl : (backTo pos (starEach [e] X.env)).any (·.1) = false := by rfl) : PuD X Γ k d il ns (.Call (.Name "_law_draw" p) [.Name "_law_deck_here" np, e] [] pos) (fun v => 0 ≤ v ∧ v < i) :=
  (pd_draw DD hr hΓ (pd_pu he) (fun j e => by subst e; exact ⟨h1, h2⟩) hg hN hvis he1 he2 hpl).to fun v ⟨b, e, z⟩ => by subst e; exact z
end
end K47
/-! Q4: loops over range(e) where all may change; list(range(n)); the drawn simplices, plainly -/
namespace K47
open PySem PySem.Spec PyProof.Rows L2
section
variable {X : Cx} {σ : L2.St} {H : Hp} {e : Expr} {x : Str} {xp p rp pos : Pos} {body : List Stmt} {D : Ends}
theorem ws_rngW (i : Nat) (M : Mg X.mg) (hN : X.N.Nodup)
    (h : WE X e σ H fun v H1 => ∃ n : Nat, v = .int (n : Nat) ∧ n ≤ 10000 ∧ ∃ Pv : Nat → L2.St → Hp → Prop, Pv 0 σ H1 ∧
      (∀ (k : Nat) (σ' : L2.St) (H' : Hp), k < n → Pv k σ' H' → WSs X body { D with nx := Pv (k + 1), ct := Pv (k + 1), bk := D.nx } (σ'.set i (some (.int (k : Nat)))) H') ∧ ∀ σ' H', Pv n σ' H' → D.nx σ' H')
    (hi : X.N[i]? = some x := by rfl) (hx : Loc X.env.scope x := by first | exact Or.inl rfl | exact Or.inr rfl) (hf : X.fn x = true ∨ X.env.scope.names.lookup x = some .local := by first | exact .inl rfl | exact .inr rfl)
    (hg : Gl X "range" := by rfl) (hst : starEach [e] X.env = [(false, eval e X.env)] := by rfl)
    (hp : PassesOwn (model X.prog X.w) X.A X.env X.xe := by exact PassesOwn.never) (hc : X.calm = true := by rfl) (hs : ∀ z, foldedSetIterable (.Call (.Name "range" p) [e] [] rp) X.env z = pure z := by intro _; rfl) :
    WS X (.For (.Name x xp) (.Call (.Name "range" p) [e] [] rp) body [] pos) D σ H := by
  refine ws_of (ps_for (g := gName i) hp hc (pi_range1 hg M.range pa_wa hst) (pg_name hN hi hx hf) pss_wss hs) ?_
  refine wa_cons (h.mono fun v H1 ⟨n, ev, hn, Pv, h0, hb, hd⟩ => wa_nil ⟨n, by rw [ev], by omega, by omega, ?_⟩) hst
  have en : ((n : Nat) : Int).toNat = n := by simp
  rw [en]
  refine for_it walk_range Pv h0 (fun _ _ _ _ _ => trivial) (fun k x σ' H' H2 hk hP hy => ?_) hd
  obtain ⟨e1, e2⟩ := hy
  subst e1 e2
  have e0 : (0 : Int) + ((k : Nat) : Int) = ((k : Nat) : Int) := by omega
  show WSs X body _ (σ'.set i (some (.int (0 + ((k : Nat) : Int))))) H2
  rw [e0]
  exact hb k σ' H2 hk hP
/-- list(range(n)) -/
theorem pun_listRg {Γ : Gm} {n : Int} (M : Mg X.mg) (he : Pu X Γ e (.d (.int n))) (h0 : 0 ≤ n) (h1 : n ≤ 10000) (hc : X.calm = true := by rfl) (hg : Gl X "list" := by rfl) (hg2 : Gl X "range" := by rfl) (na : starEach [.Call (.Name "range" p) [e] [] rp] X.env = (false, eval (.Call (.Name "range" p) [e] [] rp) X.env) :: starEach [] X.env := by rfl) (nb : starEach [e] X.env = (false, eval e X.env) :: starEach [] X.env := by rfl) :
    PuN X Γ (.Call (.Name "list" xp) [.Call (.Name "range" p) [e] [] rp] [] pos) (((List.range n.toNat).map fun (i : Nat) => (i : Int)).map .int) := fun σ H S Q q =>
  we_of (pe_listRg hc hg M.list (prg_1 hg2 M.range pe_we nb) na) (he σ H S _ fun v H1 s1 a1 => by
    cases a1
    refine ⟨n, rfl, .of_le (by omega) (by omega) (by omega) (by omega), fun np hnp => q np _ (s1.free hnp) (s1.trans (same_new hnp)) (Ls.of_ints ?_)⟩
    rw [upd_same]
    unfold rgV
    have e1 : (n - 0).toNat = n.toNat := by congr 1; omega
    rw [e1, List.map_map]
    congr 2
    apply List.map_congr_left
    intro i _
    show V.int (0 + (i : Int)) = V.int (i : Int)
    rw [Int.zero_add])
end
theorem OV.snoc {fs : List Sim} {s : Sim} (O : OV fs) (hs : Sx s) (hn : s ∉ fs) (hf : ∀ f ∈ fc s, f ∈ fs) (hl : fs.length < 60) : OV (fs ++ [s]) where
  len := by simp; omega
  nd := by
    rw [List.nodup_append]
    exact ⟨O.nd, by simp, fun a ha b hb e => hn (by rw [List.mem_singleton.mp hb] at e; rw [← e]; exact ha)⟩
  sx := fun t ht => by
    rcases List.mem_append.mp ht with z | z
    · exact O.sx t z
    · rw [List.mem_singleton.mp z]; exact hs
  fb := fun j t hj f hft => by
    by_cases e : j < fs.length
    · rw [List.getElem?_append_left e] at hj
      rw [List.take_append_of_le_length (by omega)]
      exact O.fb j t hj f hft
    · have hl := (List.getElem?_eq_some_iff.mp hj).1
      simp at hl
      have ej : j = fs.length := by omega
      subst ej
      simp at hj
      subst hj
      rw [List.take_append_of_le_length (Nat.le_refl _), List.take_length]
      exact hf f hft
theorem OV.nil : OV [] := ⟨by simp, by simp, (fun s h => nomatch h), fun j s h => by simp at h⟩
def tri : Nat → Nat
  | 0 => 0
  | k + 1 => tri k + k
def tet : Nat → Nat
  | 0 => 0
  | k + 1 => tet k + tri k
/-- names: ascending, of 0 .. 11, few -/
structure NM (nm : List Int) : Prop where
  asc : nm.Pairwise (· < ·)
  rg : ∀ x ∈ nm, 0 ≤ x ∧ x ≤ 11
  pos : 1 ≤ nm.length
  le : nm.length ≤ 5
abbrev na (nm : List Int) (i : Nat) : Int := nm.getD i 0
theorem NM.at_ {nm : List Int} {i : Nat} (h : i < nm.length) : nm[i]? = some (na nm i) := by unfold na; rw [List.getD_eq_getElem?_getD, List.getElem?_eq_getElem h]; rfl
theorem NM.mem {nm : List Int} {i : Nat} (h : i < nm.length) : na nm i ∈ nm := List.mem_of_getElem? (NM.at_ h)
theorem NM.lt {nm : List Int} (N : NM nm) {i j : Nat} (h : i < j) (hj : j < nm.length) : na nm i < na nm j := by
  have h1 := List.pairwise_iff_getElem.mp N.asc i j (by omega) hj h
  have e1 := NM.at_ (nm := nm) (i := i) (by omega)
  have e2 := NM.at_ hj
  rw [List.getElem?_eq_getElem (by omega)] at e1
  rw [List.getElem?_eq_getElem hj] at e2
  rw [← Option.some.inj e1, ← Option.some.inj e2]; exact h1
theorem NM.inj {nm : List Int} (N : NM nm) {i j : Nat} (hi : i < nm.length) (hj : j < nm.length) (e : na nm i = na nm j) : i = j := by
  rcases Nat.lt_trichotomy i j with h | h | h
  · have := N.lt h hj; omega
  · exact h
  · have := N.lt h hi; omega
/-- the edges up to (k, j) -/
structure E2 (nm : List Int) (k j : Nat) (fs : List Sim) : Prop where
  ov : OV fs
  one : ∀ a, a < nm.length → [na nm a] ∈ fs
  sh : ∀ s ∈ fs, (∃ a, a < nm.length ∧ s = [na nm a]) ∨ ∃ a b, a < b ∧ b < nm.length ∧ (b < k ∨ b = k ∧ a < j) ∧ s = [na nm a, na nm b]
  len : fs.length ≤ nm.length + tri k + j
theorem tri_le {k n : Nat} (h : k ≤ n) : tri k ≤ tri n := by
  induction h with
  | refl => exact Nat.le_refl _
  | step _ ih => exact Nat.le_trans ih (Nat.le_add_right _ _)
theorem tet_le {k n : Nat} (h : k ≤ n) : tet k ≤ tet n := by
  induction h with
  | refl => exact Nat.le_refl _
  | step _ ih => exact Nat.le_trans ih (Nat.le_add_right _ _)
theorem tri5 {k : Nat} (h : k ≤ 5) : tri k ≤ 10 := tri_le h
theorem tet5 {k : Nat} (h : k ≤ 5) : tet k ≤ 10 := tet_le h
theorem E2.put {nm : List Int} {k j : Nat} {fs : List Sim} (N : NM nm) (E : E2 nm k j fs) (hj : j < k) (hk : k < nm.length) : E2 nm k (j + 1) (fs ++ [[na nm j, na nm k]]) := by
  have hl := N.le
  have t5 := tri5 (k := k) (by omega)
  have el := E.len
  refine ⟨E.ov.snoc (.two _ _ (N.rg _ (NM.mem (by omega))).1 (N.lt hj hk) (N.rg _ (NM.mem hk)).2) (fun hm => ?_) (fun f hf => ?_) (by omega), fun a ha => List.mem_append.mpr (.inl (E.one a ha)), fun s hs => ?_, by simp; omega⟩
  · rcases E.sh _ hm with ⟨a, ha, e⟩ | ⟨a, b, h1, h2, h3, e⟩
    · simp at e
    · injection e with e1 e2
      injection e2 with e3 _
      have e4 := N.inj (by omega) (by omega) e1
      have e5 := N.inj hk h2 e3
      omega
  · simp [fc] at hf
    rcases hf with rfl | rfl
    · exact E.one j (by omega)
    · exact E.one k hk
  · rcases List.mem_append.mp hs with z | z
    · rcases E.sh s z with h | ⟨a, b, h1, h2, h3, e⟩
      · exact .inl h
      · exact .inr ⟨a, b, h1, h2, by omega, e⟩
    · exact .inr ⟨j, k, hj, hk, .inr ⟨rfl, by omega⟩, List.mem_singleton.mp z⟩
theorem E2.skip {nm : List Int} {k j : Nat} {fs : List Sim} (E : E2 nm k j fs) : E2 nm k (j + 1) fs := ⟨E.ov, E.one, fun s hs => by
  rcases E.sh s hs with h | ⟨a, b, h1, h2, h3, e⟩
  · exact .inl h
  · exact .inr ⟨a, b, h1, h2, by omega, e⟩, by have := E.len; omega⟩
theorem E2.row {nm : List Int} {k : Nat} {fs : List Sim} (E : E2 nm k k fs) : E2 nm (k + 1) 0 fs := ⟨E.ov, E.one, fun s hs => by
  rcases E.sh s hs with h | ⟨a, b, h1, h2, h3, e⟩
  · exact .inl h
  · exact .inr ⟨a, b, h1, h2, by omega, e⟩, by have := E.len; show _ ≤ _ + (tri k + k) + 0; omega⟩
/-- the triangles up to (k, j, i) -/
structure E3 (nm : List Int) (k j i : Nat) (fs : List Sim) : Prop where
  ov : OV fs
  ne : fs ≠ []
  sh : ∀ s ∈ fs, s.length ≤ 2 ∨ ∃ a b c, a < b ∧ b < c ∧ c < nm.length ∧ (c < k ∨ c = k ∧ (b < j ∨ b = j ∧ a < i)) ∧ s = [na nm a, na nm b, na nm c]
  len : fs.length ≤ 15 + tet k + tri j + i
theorem E2.e3 {nm : List Int} {fs : List Sim} (N : NM nm) (E : E2 nm nm.length 0 fs) : E3 nm 0 0 0 fs := {
  ov := E.ov
  ne := fun e => by
    have := E.one 0 N.pos
    rw [e] at this
    cases this
  sh := fun s hs => by
    rcases E.sh s hs with ⟨a, _, rfl⟩ | ⟨a, b, h1, h2, h3, rfl⟩
    · exact .inl (by simp)
    · exact .inl (by simp)
  len := by
    have h1 := E.len
    have h2 := N.le
    have h3 := tri5 h2
    show _ ≤ 15 + 0 + 0 + 0
    omega }
theorem E3.put {nm : List Int} {k j i : Nat} {fs : List Sim} (N : NM nm) (E : E3 nm k j i fs) (hi : i < j) (hj : j < k) (hk : k < nm.length) (hf : ∀ f ∈ fc [na nm i, na nm j, na nm k], f ∈ fs) : E3 nm k j (i + 1) (fs ++ [[na nm i, na nm j, na nm k]]) := by
  have hl := N.le
  have t5 := tet5 (k := k) (by omega)
  have t6 := tri5 (k := j) (by omega)
  have el := E.len
  refine ⟨E.ov.snoc (.three _ _ _ (N.rg _ (NM.mem (by omega))).1 (N.lt hi (by omega)) (N.lt hj hk) (N.rg _ (NM.mem hk)).2) (fun hm => ?_) hf (by omega), by simp, fun s hs => ?_, by simp; omega⟩
  · rcases E.sh _ hm with e | ⟨a, b, c, h0, h1, h2, h3, e⟩
    · simp at e
    · injection e with e1 e2
      injection e2 with e3 e4
      injection e4 with e5 _
      have e6 := N.inj (by omega) (by omega) e1
      have e7 := N.inj (by omega) (by omega) e3
      have e8 := N.inj hk h2 e5
      omega
  · rcases List.mem_append.mp hs with z | z
    · rcases E.sh s z with h | ⟨a, b, c, h0, h1, h2, h3, e⟩
      · exact .inl h
      · exact .inr ⟨a, b, c, h0, h1, h2, by omega, e⟩
    · exact .inr ⟨i, j, k, hi, hj, hk, .inr ⟨rfl, .inr ⟨rfl, by omega⟩⟩, List.mem_singleton.mp z⟩
theorem E3.skip {nm : List Int} {k j i : Nat} {fs : List Sim} (E : E3 nm k j i fs) : E3 nm k j (i + 1) fs := ⟨E.ov, E.ne, fun s hs => by
  rcases E.sh s hs with h | ⟨a, b, c, h0, h1, h2, h3, e⟩
  · exact .inl h
  · exact .inr ⟨a, b, c, h0, h1, h2, by omega, e⟩, by have := E.len; omega⟩
theorem E3.row {nm : List Int} {k j : Nat} {fs : List Sim} (E : E3 nm k j j fs) : E3 nm k (j + 1) 0 fs := ⟨E.ov, E.ne, fun s hs => by
  rcases E.sh s hs with h | ⟨a, b, c, h0, h1, h2, h3, e⟩
  · exact .inl h
  · exact .inr ⟨a, b, c, h0, h1, h2, by omega, e⟩, by have := E.len; show _ ≤ _ + (tri j + j) + 0; omega⟩
theorem E3.page {nm : List Int} {k : Nat} {fs : List Sim} (E : E3 nm k k 0 fs) : E3 nm (k + 1) 0 0 fs := ⟨E.ov, E.ne, fun s hs => by
  rcases E.sh s hs with h | ⟨a, b, c, h0, h1, h2, h3, e⟩
  · exact .inl h
  · exact .inr ⟨a, b, c, h0, h1, h2, by omega, e⟩, by have := E.len; show _ ≤ 15 + (tet k + tri k) + 0 + 0; omega⟩
/-- the vertices -/
theorem E2.start {nm : List Int} (N : NM nm) : E2 nm 0 0 (nm.map fun x => [x]) where
  ov := ⟨by have := N.le; simp; omega, List.Pairwise.map _ (fun a b h e => by injection e with e; omega) N.asc, fun s hs => by
    obtain ⟨x, hx, rfl⟩ := List.mem_map.mp hs
    exact .one x (N.rg x hx).1 (N.rg x hx).2, fun j s h f hf => by
    rw [List.getElem?_map] at h
    cases e : nm[j]? with
    | none => rw [e] at h; cases h
    | some x => rw [e] at h; cases h; simp [fc] at hf⟩
  one := fun a ha => List.mem_map.mpr ⟨_, NM.mem ha, rfl⟩
  sh := fun s hs => by
    obtain ⟨x, hx, rfl⟩ := List.mem_map.mp hs
    obtain ⟨i, hi, e⟩ := List.mem_iff_getElem.mp hx
    refine .inl ⟨i, hi, ?_⟩
    have := NM.at_ hi
    rw [List.getElem?_eq_getElem hi] at this
    rw [← Option.some.inj this, e]
  len := by simp
theorem map_erase {α β : Type} (f : α → β) : ∀ (l : List α) (n : Nat), (l.map f).eraseIdx n = (l.eraseIdx n).map f
  | [], n => by simp
  | a :: l, 0 => by simp
  | a :: l, n + 1 => by simp [map_erase f l n]
theorem erase_perm {α : Type} : ∀ {l : List α} {n : Nat} (h : n < l.length), (l[n] :: l.eraseIdx n).Perm l
  | [], _, h => by simp at h
  | a :: l, 0, h => by simp
  | a :: l, n + 1, h => by
    have ih := erase_perm (l := l) (n := n) (by simpa using h)
    simp only [List.getElem_cons_succ, List.eraseIdx_cons_succ]
    exact (List.Perm.swap a _ _).trans (ih.cons a)
end K47
/-! Q5: _law_simplices -/
namespace K47
open PySem PySem.Spec PyProof.Rows L2
section
variable {d il q : Addr} {ns : List Int} {H H1 H2 : Hp}
theorem Dw.free (w : Dw d il ns H H1) (n : H1 q = none) : H q = none := by
  cases e : H q with
  | none => rfl
  | some u =>
    by_cases h : q = d
    · subst h; exact absurd n w.dk.ne_none.1
    · rw [w.fr q u (by simpa using h) e] at n; cases n
theorem DK.fr1 (h0 : DK H d il ns) (hq : H q = none) : d ≠ q ∧ il ≠ q := ⟨fun e => by subst e; exact h0.ne_none.1 hq, fun e => by subst e; exact h0.ne_none.2 hq⟩
/-- a list that was not there is written -/
theorem Dw.upd (h0 : DK H d il ns) (w : Dw d il ns H H1) (hq : H q = none) {us us' : List V} (hl : H1 q = some (.lst us)) : Dw d il ns H (upd H1 q (.lst us')) := by
  obtain ⟨n1, n2⟩ := h0.fr1 hq
  refine ⟨w.dk.x .upd n1 n2, fun x u hx e => ?_, w.tx.trans (.mut hl fun _ z => nomatch z)⟩
  rw [upd_ne (ne_of_none e hq)]
  exact w.fr x u hx e
theorem Dw.x (h0 : DK H d il ns) (w : Dw d il ns H H1) (hq : H q = none) {ds : List PyData} (hl : Ls H1 q ds) (x : SameX q H1 H2) : Dw d il ns H H2 := by
  obtain ⟨n1, n2⟩ := h0.fr1 hq
  exact ⟨w.dk.x x n1 n2, fun a u hx e => x a u (ne_of_none e hq) (w.fr a u hx e), w.tx.trans (x.tx hl)⟩
theorem Ls.dw {ds : List PyData} (l : Ls H q ds) (h0 : DK H d il ns) (w : Dw d il ns H H1) : Ls H1 q ds := l.fr w.fr (by simp; exact fun e => by subst e; exact h0.nls l) w.tx
theorem Ls.sx {ds es : List PyData} {p : Addr} (l : Ls H p ds) (hq : Ls H q es) (h : p ≠ q) (x : SameX q H H1) : Ls H1 p ds := by
  obtain ⟨us, h1, h2⟩ := l
  exact ⟨us, x _ _ h h1, h2.mono (x.tx hq)⟩
end
section
variable {P : Program} {w : World} {K : PySem.W.Frag} {mg : Str → Option Value} {base : Heap}
def spSim : Sp := fun vs H Q _ => ∃ (d il : Addr) (ns : List Int), vs = [V.ref d] ∧ DK H d il ns ∧ ∀ (p : Addr) (fs : List Sim) H', H p = none → Dw d il ns H H' → Ls H' p (fs.map eS) → OV fs → fs ≠ [] → Q (.ref p) H'
abbrev N60 : List Str := ["_law_deck_here", "_law_left", "_law_names", "_law_found", "_law_wide", "_law_k", "_law_j", "_law_i", "_law_triangle", "_law_name", "_law_face"]
theorem sc_60 : FnScope N60 ["_law_deck_here"] (defScope (top 60)) := ⟨rfl, rfl, rfl, by decide +kernel, rfl, by decide +kernel, by decide +kernel⟩
abbrev W60 : List Nat := [5, 6, 7, 8, 9, 10]
theorem ok_lsimplices (M : Mg mg) (S : Stands K mg "_law_simplices" 60) (DF : Df0 P w K mg base "_law_faces" 1 (spN rLFac)) (DD : Df0 P w K mg base "_law_draw" 1 spDraw) : Df0 P w K mg base "_law_simplices" 2 spSim := by
  refine mk_def S sc_60 (fun vs H Q E h => by obtain ⟨_, _, _, rfl, _⟩ := h; rfl) (fun _ _ _ _ _ _ us hl => match us, hl with | [_], _ => rfl) fun f cdv A outer s H vs Q E hr h => ?_
  obtain ⟨d, il, ns, rfl, hDK, q'⟩ := h
  have hu : (A.deeper (envOfC "_law_simplices" (defScope (top 60)) s.heap.objs.size f cdv)).units + 65 < cLine := by have := hr.un; omega
  have hv : L2.start N60 [V.ref d] = [some (.ref d), none, none, none, none, none, none, none, none, none, none] := rfl
  rw [hv]
  have S0 : Sl H [some (V.ref d), none, none, none, none, none, none, none, none, none, none] [none, none, none, none, none, none, none, none, none, none, none] := ⟨rfl, fun i r z => by
    match i with
    | 0 => cases z
    | 1 => cases z
    | 2 => cases z
    | 3 => cases z
    | 4 => cases z
    | 5 => cases z
    | 6 => cases z
    | 7 => cases z
    | 8 => cases z
    | 9 => cases z
    | 10 => cases z
    | i + 11 => cases z⟩
  -- left
  refine wss_cons (ws_setN 1 sc_60.nd S0 (pun_listRg M (pu_int (i := 12)) (by decide) (by decide)) fun L H1 nL s1 lL => ?_)
  show WSs _ _ _ [some (V.ref d), some (.ref L), none, none, none, none, none, none, none, none, none] H1
  have S1 : Sl H1 [some (V.ref d), some (.ref L), none, none, none, none, none, none, none, none, none] [none, none, none, none, none, none, none, none, none, none, none] := (S0.mono s1).set0 1
  have w1 : Dw d il ns H H1 := .same hDK s1
  generalize hr12 : ((List.range (12 : Int).toNat).map fun (i : Nat) => (i : Int)) = r12 at lL
  have r12l : r12.length = 12 := by rw [← hr12]; rfl
  have r12n : r12.Nodup := by rw [← hr12]; decide
  have r12m : ∀ x ∈ r12, 0 ≤ x ∧ x ≤ 11 := by rw [← hr12]; decide
  clear hr12
  -- names
  refine wss_cons (ws_setW 2 sc_60.nd (we_cB cr_sortedI M.sorted (by decide +kernel) (wa_cons (we_lcR N60 (defScope (top 60)) 5 M sc_60.nd ((pd_add (k := 0) (d := d) (il := il) (ns := ns) rfl (pd_pu (pu_int (i := 1))) (pd_drawP (i := 5) DD.df (hr.mono (by decide)) rfl pu_int (by decide) (by decide))) _ H1 S1 rfl w1.dk _ fun z H2 hz w2 => ?_)))))
  obtain ⟨i1, j1, rfl, ⟨hj0, hj5⟩, rfl⟩ := hz
  refine ⟨(1 + j1).toNat, by rw [Int.toNat_of_nonneg (by omega)], by omega, fun D hD => ?_⟩
  have w02 := w1.trans w2
  have hD0 : H D = none := w02.free hD
  have lL2 : Ls H2 L (r12.map .int) := lL.dw w1.dk w2
  have nLD : L ≠ D := fun e => by subst e; exact ls_not_none lL2 hD
  obtain ⟨nd1, nd2⟩ := hDK.fr1 nL
  obtain ⟨nd3, nd4⟩ := hDK.fr1 hD0
  refine ⟨fun i acc H' => ∃ (got rest : List Int), acc = got.map V.int ∧ got.length = i ∧ H' D = some (.lst acc) ∧ H' L = some (.lst (rest.map V.int)) ∧ (got ++ rest).Perm r12 ∧ Dw d il ns H H', ⟨[], r12, rfl, rfl, upd_same, by rw [upd_ne nLD]; exact lL2.ints, .refl _, w02.step (same_new hD)⟩, fun i acc H' hi hP => ?_, fun acc H' hP => wa_nil ?_⟩
  · obtain ⟨got, rest, rfl, hgl, hDl, hLl, hpm, wH⟩ := hP
    refine ⟨by rw [List.length_map]; exact hgl, fun s0 H0 C cl fp => ?_⟩
    have hrl : rest.length + i = 12 := by
      have := hpm.length_eq
      rw [List.length_append] at this
      omega
    show WE _ _ [some (V.ref d), some (.ref L), none, none, none, some (.int (i : Nat)), none, none, none, none, none] H' _
    have SE : Sl H' [some (V.ref d), some (.ref L), none, none, none, some (.int (i : Nat)), none, none, none, none, none] [none, some (.l (rest.map .int)), none, none, none, none, none, none, none, none, none] := ⟨rfl, fun i r z => by
      match i with
      | 0 => cases z
      | 1 => cases z; exact ⟨_, rfl, L, rfl, Ls.of_ints hLl⟩
      | 2 => cases z
      | 3 => cases z
      | 4 => cases z
      | 5 => cases z
      | 6 => cases z
      | 7 => cases z
      | 8 => cases z
      | 9 => cases z
      | 10 => cases z
      | i + 11 => cases z⟩
    refine we_popAt (we_name 1 rfl ⟨L, rfl, ⟨_, hLl⟩, (pd_drawP (k := 0) (d := d) (il := il) (ns := ns) (i := (rest.length : Int)) DD.df (hr.mono (by decide)) rfl ((pu_lenL M (pu_var 1)).to (by rw [List.length_map])) (by omega) (by omega)) _ H' SE rfl wH.dk _ fun v H3 hv3 w3 => ?_⟩)
    obtain ⟨v0, v1⟩ := hv3
    have hlt : v.toNat < rest.length := by omega
    have hL3 : H3 L = some (.lst (rest.map V.int)) := w3.fr _ _ (by simpa using nd1.symm) hLl
    have hD3 : H3 D = some (.lst (got.map V.int)) := w3.fr _ _ (by simpa using nd3.symm) hDl
    have w03 := wH.trans w3
    have w4 : Dw d il ns H (upd H3 L (.lst ((rest.map V.int).eraseIdx v.toNat))) := w03.upd hDK nL hL3
    have hD4 : (upd H3 L (.lst ((rest.map V.int).eraseIdx v.toNat))) D = some (.lst (got.map V.int)) := by rw [upd_ne nLD.symm]; exact hD3
    refine ⟨rest.map V.int, v.toNat, .int rest[v.toNat], by rw [Int.toNat_of_nonneg v0], hL3, by rw [List.getElem?_map, List.getElem?_eq_getElem hlt]; rfl, by omega, hD4, got ++ [rest[v.toNat]], rest.eraseIdx v.toNat, by simp, by simp; omega, upd_same, ?_, ?_, w4.upd hDK hD0 hD4⟩
    · rw [upd_ne nLD, upd_same, map_erase]
    · rw [List.append_assoc]
      exact ((erase_perm hlt).append_left got).trans hpm
  obtain ⟨got, rest, rfl, hgl, hDl, hLl, hpm, wH⟩ := hP
  refine ⟨D, got, rfl, SqL.of hDl, fun nm an h1 h2 hnp => ?_⟩
  have hgn : got.Nodup := (List.nodup_append.mp (hpm.nodup_iff.mpr r12n)).1
  have NMn : NM nm := by
    refine ⟨?_, fun x hx => r12m x (hpm.mem_iff.mp (List.mem_append.mpr (.inl (h1.mem_iff.mp hx)))), by rw [h1.length_eq, hgl]; omega, by rw [h1.length_eq, hgl]; omega⟩
    have hn : nm.Nodup := h1.nodup_iff.mpr hgn
    exact (h2.and hn).imp fun z => by obtain ⟨x, y⟩ := z; omega
  show WSs _ _ _ [some (V.ref d), some (.ref L), some (.ref an), none, none, none, none, none, none, none, none] _
  have wa : Dw d il ns H (upd H' an (.lst (nm.map V.int))) := wH.step (same_new hnp)
  have han : H an = none := wH.free hnp
  have la : Ls (upd H' an (.lst (nm.map V.int))) an (nm.map .int) := Ls.of_ints upd_same
  generalize upd H' an (.lst (nm.map V.int)) = H5 at wa la
  have hnl := NMn.le
  clear hpm hLl hDl wH hnp hgn h1 h2 hgl
  have S5 : Sl H5 [some (V.ref d), some (.ref L), some (.ref an), none, none, none, none, none, none, none, none] [none, none, some (.l (nm.map .int)), none, none, none, none, none, none, none, none] := ⟨rfl, fun i r z => by
    match i with
    | 0 => cases z
    | 1 => cases z
    | 2 => cases z; exact ⟨_, rfl, an, rfl, la⟩
    | 3 => cases z
    | 4 => cases z
    | 5 => cases z
    | 6 => cases z
    | 7 => cases z
    | 8 => cases z
    | 9 => cases z
    | 10 => cases z
    | i + 11 => cases z⟩
  -- found
  refine wss_cons (ws_setN 3 sc_60.nd S5 ((lcd1a (xs := nm) (enc := PyData.int) N60 (defScope (top 60)) 9 (fun x => eS [x]) (src_list (pu_var 2)) sc_60.nd (by omega) (fun x _ _ _ _ _ _ => (pu_tup (ds := [.int x]) (pua_cons (pu_var 9) pua_nil)).to rfl)).to (ds' := (nm.map fun x => [x]).map eS) (by rw [List.map_map]; rfl)).pun fun q H6 nq s6 l6 => ?_)
  show WSs _ _ _ [some (V.ref d), some (.ref L), some (.ref an), some (.ref q), none, none, none, none, none, none, none] H6
  have hq0 : H q = none := wa.free nq
  have w6 := wa.step s6
  have la6 := la.mono s6
  have naq : an ≠ q := fun e => by subst e; exact ls_not_none la nq
  have S6 : Sl H6 [some (V.ref d), some (.ref L), some (.ref an), some (.ref q), none, none, none, none, none, none, none] [none, none, none, none, none, none, none, none, none, none, none] := ⟨rfl, fun i r z => by
    match i with
    | 0 => cases z
    | 1 => cases z
    | 2 => cases z
    | 3 => cases z
    | 4 => cases z
    | 5 => cases z
    | 6 => cases z
    | 7 => cases z
    | 8 => cases z
    | 9 => cases z
    | 10 => cases z
    | i + 11 => cases z⟩
  -- wide
  refine wss_cons (ws_setW 4 sc_60.nd ((pd_add (k := 0) (d := d) (il := il) (ns := ns) rfl (pd_pu (pu_int (i := 2))) (pd_drawP (i := 5) DD.df (hr.mono (by decide)) rfl pu_int (by decide) (by decide))) _ H6 S6 rfl w6.dk _ fun wd H7 hz w7 => ?_))
  obtain ⟨i1, j1, rfl, ⟨hj0', hj5'⟩, hwd⟩ := hz
  have hwd0 : 0 < wd := by omega
  have hwd1 : wd < 1073741824 := by omega
  show WSs _ _ _ [some (V.ref d), some (.ref L), some (.ref an), some (.ref q), some (.int wd), none, none, none, none, none, none] H7
  have w07 := w6.trans w7
  have la7 := la6.dw w6.dk w7
  have l7 := l6.dw w6.dk w7
  generalize hσc : [some (V.ref d), some (.ref L), some (.ref an), some (.ref q), some (.int wd), none, none, none, none, none, none] = σc
  have g0 : ∀ σ', wipe σ' W60 = wipe σc W60 → σ'[0]? = some (some (V.ref d)) := fun σ' hw => by rw [wipe_get hw (by decide), ← hσc]; rfl
  have g3 : ∀ σ', wipe σ' W60 = wipe σc W60 → σ'[3]? = some (some (V.ref q)) := fun σ' hw => by rw [wipe_get hw (by decide), ← hσc]; rfl
  have SL : ∀ (H' : Hp) (σ' : L2.St) (fs : List Sim), wipe σ' W60 = wipe σc W60 → Ls H' an (nm.map .int) → Ls H' q (fs.map eS) → Sl H' σ' [none, none, some (.l (nm.map .int)), some (.l (fs.map eS)), some (.d (.int wd)), none, none, none, none, none, none] := fun H' σ' fs hw h1 h2 => by
    refine Sl.wiped (σ := σc) (W := W60) ?_ hw bare_of
    subst hσc
    exact ⟨rfl, fun i r z => by
      match i with
      | 0 => cases z
      | 1 => cases z
      | 2 => cases z; exact ⟨_, rfl, an, rfl, h1⟩
      | 3 => cases z; exact ⟨_, rfl, q, rfl, h2⟩
      | 4 => cases z; exact ⟨_, rfl, .int _⟩
      | 5 => cases z
      | 6 => cases z
      | 7 => cases z
      | 8 => cases z
      | 9 => cases z
      | 10 => cases z
      | i + 11 => cases z⟩
  have wset : ∀ (σ' : L2.St) (i : Nat) (x : Option V), i ∈ W60 → wipe σ' W60 = wipe σc W60 → wipe (σ'.set i x) W60 = wipe σc W60 := fun σ' i x hi hw => (wipe_set hi).trans hw
  -- an append
  -- the edges
  refine wss_cons (ws_rngW 5 M sc_60.nd (we_pu (SL H7 σc _ rfl la7 l7) (pu_lenL M (pu_var 2)) fun v8 H8 s8 a8 => ?_))
  cases a8
  rw [List.length_map]
  refine ⟨nm.length, rfl, by omega, fun k σ' H' => wipe σ' W60 = wipe σc W60 ∧ Dw d il ns H H' ∧ Ls H' an (nm.map .int) ∧ ∃ fs, Ls H' q (fs.map eS) ∧ E2 nm k 0 fs, ⟨rfl, w07.step s8, la7.mono s8, _, l7.mono s8, E2.start NMn⟩, fun k σ' H' hk hP => ?_, fun σ' H' hP => ?_⟩
  · obtain ⟨hw, wd', la', fs, lq, E⟩ := hP
    have hw5 := wset σ' 5 (some (.int (k : Nat))) (by simp) hw
    have S5' := (SL H' σ' fs hw la' lq).set 5 (r := .d (.int (k : Nat))) (.int _)
    have h55 : (σ'.set 5 (some (V.int (k : Nat))))[5]? = some (some (.int (k : Nat))) := List.getElem?_set_self (by have := (SL H' σ' fs hw la' lq).len; simp at this; omega)
    refine wss_one (ws_rngW 6 M sc_60.nd (we_pu S5' (pu_var 5) fun v8 H8 s8 a8 => ?_))
    cases a8
    refine ⟨k, rfl, by omega, fun j σ2 H2 => wipe σ2 W60 = wipe σc W60 ∧ σ2[5]? = some (some (.int (k : Nat))) ∧ Dw d il ns H H2 ∧ Ls H2 an (nm.map .int) ∧ ∃ fs, Ls H2 q (fs.map eS) ∧ E2 nm k j fs, ⟨hw5, h55, wd'.step s8, la'.mono s8, fs, lq.mono s8, E⟩, fun j σ2 H2 hj hP => ?_, fun σ2 H2 hP => ?_⟩
    · obtain ⟨hw2, h5, wd2, la2, fs, lq, E⟩ := hP
      have hw6 := wset σ2 6 (some (.int (j : Nat))) (by simp) hw2
      have S6' := ((SL H2 σ2 fs hw2 la2 lq).add 5 (r := .d (.int (k : Nat))) h5 (.int _)).set 6 (r := .d (.int (j : Nat))) (.int _)
      have h56 : (σ2.set 6 (some (V.int (j : Nat))))[5]? = some (some (.int (k : Nat))) := by rw [List.getElem?_set_ne (by decide)]; exact h5
      generalize σ2.set 6 (some (V.int (j : Nat))) = σ6 at hw6 S6' h56
      refine wss_one (ws_ifW (wt_cmp op_gt (by rfl) ((pd_drawP (k := 0) (d := d) (il := il) (ns := ns) (i := wd) DD.df (hr.mono (by decide)) rfl (pu_var 4) hwd0 hwd1) σ6 H2 S6' (g0 _ hw6) wd2.dk _ fun v H3 hv3 w3 => we_pu (S6'.dw w3 wd2.dk rfl) (pu_int (i := 0)) fun z H4 s4 a4 => ?_)))
      cases a4
      have wd4 := (wd2.trans w3).step s4
      have la4 := (la2.dw wd2.dk w3).mono s4
      have lq4 := (lq.dw wd2.dk w3).mono s4
      have S4 := (S6'.dw w3 wd2.dk rfl).mono s4
      refine ⟨v, 0, rfl, rfl, _, rfl, ?_⟩
      by_cases hc : (0 : Int) < v
      · rw [decide_eq_true hc, if_pos rfl]
        refine wss_one (ws_app 3 (d := eS [na nm j, na nm k]) S4 (g3 _ hw6) lq4 ((pu_tup (ds := [.int (na nm j), .int (na nm k)]) (pua_cons (pu_ixL (pu_var 2) (pu_var 6) (atI_nat' (n := j) (by rw [List.getElem?_map, NM.at_ (by omega)]; rfl) rfl)) (pua_cons (pu_ixL (pu_var 2) (pu_var 5) (atI_nat' (n := k) (by rw [List.getElem?_map, NM.at_ hk]; rfl) rfl)) pua_nil))).to rfl) (by have := E.ov.len; rw [List.length_map]; omega) fun H5 x5 l5 => ?_)
        exact ⟨hw6, h56, wd4.x hDK hq0 lq4 x5, la4.sx lq4 naq x5, fs ++ [[na nm j, na nm k]], by simpa using l5, E.put NMn hj hk⟩
      · rw [decide_eq_false hc, if_neg (by simp)]
        exact wss_nil ⟨hw6, h56, wd4, la4, fs, lq4, E.skip⟩
    · obtain ⟨hw2, h5, wd2, la2, fs, lq, E⟩ := hP
      exact ⟨hw2, wd2, la2, fs, lq, E.row⟩
  obtain ⟨hw, wdA, laA, fs, lq, E⟩ := hP
  have EA := E.e3 NMn
  clear E
  -- the triangles
  refine wss_cons (ws_rngW 5 M sc_60.nd (we_pu (SL H' σ' _ hw laA lq) (pu_lenL M (pu_var 2)) fun v8 H8 s8 a8 => ?_))
  cases a8
  rw [List.length_map]
  refine ⟨nm.length, rfl, by omega, fun k σ' H' => wipe σ' W60 = wipe σc W60 ∧ Dw d il ns H H' ∧ Ls H' an (nm.map .int) ∧ ∃ fs, Ls H' q (fs.map eS) ∧ E3 nm k 0 0 fs, ⟨hw, wdA.step s8, laA.mono s8, _, lq.mono s8, EA⟩, fun k σ' H' hk hP => ?_, fun σ' H' hP => ?_⟩
  · clear hw wdA laA lq EA
    obtain ⟨hw, wd', la', fs, lq, E⟩ := hP
    have hw5 := wset σ' 5 (some (.int (k : Nat))) (by simp) hw
    have S5' := (SL H' σ' fs hw la' lq).set 5 (r := .d (.int (k : Nat))) (.int _)
    have h55 : (σ'.set 5 (some (V.int (k : Nat))))[5]? = some (some (.int (k : Nat))) := List.getElem?_set_self (by have := (SL H' σ' fs hw la' lq).len; simp at this; omega)
    refine wss_one (ws_rngW 6 M sc_60.nd (we_pu S5' (pu_var 5) fun v8 H8 s8 a8 => ?_))
    cases a8
    refine ⟨k, rfl, by omega, fun j σ2 H2 => wipe σ2 W60 = wipe σc W60 ∧ σ2[5]? = some (some (.int (k : Nat))) ∧ Dw d il ns H H2 ∧ Ls H2 an (nm.map .int) ∧ ∃ fs, Ls H2 q (fs.map eS) ∧ E3 nm k j 0 fs, ⟨hw5, h55, wd'.step s8, la'.mono s8, fs, lq.mono s8, E⟩, fun j σ2 H2 hj hP => ?_, fun σ2 H2 hP => ?_⟩
    · clear hw wd' la' lq E S5' h55 hw5 s8
      obtain ⟨hw2, h5, wd2, la2, fs, lq, E⟩ := hP
      have hw6 := wset σ2 6 (some (.int (j : Nat))) (by simp) hw2
      have S6' := ((SL H2 σ2 fs hw2 la2 lq).add 5 (r := .d (.int (k : Nat))) h5 (.int _)).set 6 (r := .d (.int (j : Nat))) (.int _)
      have h56 : (σ2.set 6 (some (V.int (j : Nat))))[5]? = some (some (.int (k : Nat))) := by rw [List.getElem?_set_ne (by decide)]; exact h5
      have h66 : (σ2.set 6 (some (V.int (j : Nat))))[6]? = some (some (.int (j : Nat))) := List.getElem?_set_self (by have := (SL H2 σ2 fs hw2 la2 lq).len; simp at this; omega)
      generalize σ2.set 6 (some (V.int (j : Nat))) = σ6 at hw6 S6' h56 h66
      refine wss_one (ws_rngW 7 M sc_60.nd (we_pu S6' (pu_var 6) fun v8 H8 s8 a8 => ?_))
      cases a8
      refine ⟨j, rfl, by omega, fun i σ3 H3 => wipe σ3 W60 = wipe σc W60 ∧ σ3[5]? = some (some (.int (k : Nat))) ∧ σ3[6]? = some (some (.int (j : Nat))) ∧ Dw d il ns H H3 ∧ Ls H3 an (nm.map .int) ∧ ∃ fs, Ls H3 q (fs.map eS) ∧ E3 nm k j i fs, ⟨hw6, h56, h66, wd2.step s8, la2.mono s8, fs, lq.mono s8, E⟩, fun i σ3 H3 hi hP => ?_, fun σ3 H3 hP => ?_⟩
      · clear hw2 wd2 la2 lq E S6' s8 h5
        obtain ⟨hw3, h5, h6, wd3, la3, fs, lq, E⟩ := hP
        have hw7 := wset σ3 7 (some (.int (i : Nat))) (by simp) hw3
        have S7 := (((SL H3 σ3 fs hw3 la3 lq).add 5 (r := .d (.int (k : Nat))) h5 (.int _)).add 6 (r := .d (.int (j : Nat))) h6 (.int _)).set 7 (r := .d (.int (i : Nat))) (.int _)
        have h57 : (σ3.set 7 (some (V.int (i : Nat))))[5]? = some (some (.int (k : Nat))) := by rw [List.getElem?_set_ne (by decide)]; exact h5
        have h67 : (σ3.set 7 (some (V.int (i : Nat))))[6]? = some (some (.int (j : Nat))) := by rw [List.getElem?_set_ne (by decide)]; exact h6
        generalize σ3.set 7 (some (V.int (i : Nat))) = σ7 at hw7 S7 h57 h67
        -- triangle
        refine wss_cons (ws_set 8 sc_60.nd S7 ((pu_tup (ds := [.int (na nm i), .int (na nm j), .int (na nm k)]) (pua_cons (pu_ixL (pu_var 2) (pu_var 7) (atI_nat' (n := i) (by rw [List.getElem?_map, NM.at_ (by omega)]; rfl) rfl)) (pua_cons (pu_ixL (pu_var 2) (pu_var 6) (atI_nat' (n := j) (by rw [List.getElem?_map, NM.at_ (by omega)]; rfl) rfl)) (pua_cons (pu_ixL (pu_var 2) (pu_var 5) (atI_nat' (n := k) (by rw [List.getElem?_map, NM.at_ hk]; rfl) rfl)) pua_nil)))).to (r' := .d (eS [na nm i, na nm j, na nm k])) rfl) fun v9 H9 s9 a9 => ?_)
        have hsx : Sx [na nm i, na nm j, na nm k] := .three _ _ _ (NMn.rg _ (NM.mem (by omega))).1 (NMn.lt hi (by omega)) (NMn.lt hj hk) (NMn.rg _ (NM.mem hk)).2
        have hw8 := wset σ7 8 (some v9) (by simp) hw7
        have S8 := (S7.mono s9).set 8 a9
        have h58 : (σ7.set 8 (some v9))[5]? = some (some (.int (k : Nat))) := by rw [List.getElem?_set_ne (by decide)]; exact h57
        have h68 : (σ7.set 8 (some v9))[6]? = some (some (.int (j : Nat))) := by rw [List.getElem?_set_ne (by decide)]; exact h67
        generalize σ7.set 8 (some v9) = σ8 at hw8 S8 h58 h68
        generalize htr : [na nm i, na nm j, na nm k] = tr at S8 hsx
        have wd9 := wd3.step s9
        have la9 := la3.mono s9
        have lq9 := lq.mono s9
        refine wss_one (ws_ifW (wt_and (wt_pu (b := (lf tr).all fun f => decide (f ∈ fs)) S8 ((pu_val (pu_all (bs := (lf tr).map fun f => decide (f ∈ fs)) M rfl ((lcd1a (xs := lf tr) (enc := eS) N60 (defScope (top 60)) 10 (fun f => .bool (decide (f ∈ fs))) (src_list (pun_call DF.df (hr.mono (by decide)) (pua_cons (pu_var 8) pua_nil) ⟨tr, hsx, rfl, rfl⟩).pu) sc_60.nd (by unfold lf; rw [List.length_reverse]; have := fc_len (s := tr); omega)
          (fun f _ _ _ _ _ _ => (pu_cmp (op_inD hu) (rv_inD (sh_S f) (sh_Ss fs)) (by rfl) (pu_var 10) (pu_var 3)).to (by rw [any_S]))).to map_bools).pun.pu)).to (by rw [List.all_map]; rfl)) fun H10 s10 => ?_)))
        have wd10 := wd9.step s10
        have la10 := la9.mono s10
        have lq10 := lq9.mono s10
        have S10 := S8.mono s10
        by_cases hc : ((lf tr).all fun f => decide (f ∈ fs)) = true
        · rw [if_pos hc]
          refine wt_cmp op_gt (by rfl) ((pd_drawP (k := 0) (d := d) (il := il) (ns := ns) (i := 3) DD.df (hr.mono (by decide)) rfl pu_int (by decide) (by decide)) σ8 H10 S10 (g0 _ hw8) wd10.dk _ fun v H11 hv3 w11 => we_pu (S10.dw w11 wd10.dk rfl) (pu_int (i := 0)) fun z H12 s12 a12 => ?_)
          cases a12
          have wd12 := (wd10.trans w11).step s12
          have la12 := (la10.dw wd10.dk w11).mono s12
          have lq12 := (lq10.dw wd10.dk w11).mono s12
          have S12 := (S10.dw w11 wd10.dk rfl).mono s12
          refine ⟨v, 0, rfl, rfl, _, rfl, ?_⟩
          by_cases hc2 : (0 : Int) < v
          · rw [decide_eq_true hc2, if_pos rfl]
            refine wss_one (ws_app 3 (d := eS tr) S12 (g3 _ hw8) lq12 (pu_var 8) (by have := E.ov.len; rw [List.length_map]; omega) fun H13 x13 l13 => ?_)
            subst htr
            rw [List.all_eq_true] at hc
            exact ⟨hw8, h58, h68, wd12.x hDK hq0 lq12 x13, la12.sx lq12 naq x13, fs ++ [[na nm i, na nm j, na nm k]], by simpa using l13, E.put NMn hi hj hk fun f hf => of_decide_eq_true (hc f (by unfold lf; simpa using hf))⟩
          · rw [decide_eq_false hc2, if_neg (by simp)]
            exact wss_nil ⟨hw8, h58, h68, wd12, la12, fs, lq12, E.skip⟩
        · rw [if_neg hc, if_neg (by simp)]
          exact wss_nil ⟨hw8, h58, h68, wd10, la10, fs, lq10, E.skip⟩
      · obtain ⟨hw3, h5, h6, wd3, la3, fs, lq, E⟩ := hP
        exact ⟨hw3, h5, wd3, la3, fs, lq, E.row⟩
    · obtain ⟨hw2, h5, wd2, la2, fs, lq, E⟩ := hP
      exact ⟨hw2, wd2, la2, fs, lq, E.page⟩
  clear hw wdA laA lq EA
  obtain ⟨hw, wdA, laA, fs, lq, E⟩ := hP
  exact wss_one (ws_retW (we_name 3 (g3 _ hw) (q' q fs H' hq0 wdA lq E.ov E.ne)))
end
end K47
/-! Q6: _law_shape -/
namespace K47
open PySem PySem.Spec PyProof.Rows L2
section
variable {X : Cx} {σ : L2.St} {H : Hp} {D : Ends} {g : TG} {tg iter : Expr} {body : List Stmt} {pos : Pos}
/-- for over a list of anything -/
theorem ws_forW (hg : PG X tg g) (h : WE X iter σ H fun v H1 => ∃ T xs, v = .ref T ∧ H1 T = some (.lst xs) ∧ ∃ Pv : Nat → L2.St → Hp → Prop, Pv 0 σ H1 ∧ (∀ i σ' H', i ≤ xs.length → Pv i σ' H' → H' T = some (.lst xs)) ∧
      (∀ (i : Nat) (x : V) σ' H', xs[i]? = some x → Pv i σ' H' → g x σ' H' fun σ2 H2 => WSs X body { D with nx := Pv (i + 1), ct := Pv (i + 1), bk := D.nx } σ2 H2) ∧ ∀ σ' H', Pv xs.length σ' H' → D.nx σ' H')
    (hp : PassesOwn (model X.prog X.w) X.A X.env X.xe := by exact PassesOwn.never) (hc : X.calm = true := by rfl) (hs : ∀ x, foldedSetIterable iter X.env x = pure x := by intro _; rfl) : WS X (.For tg iter body [] pos) D σ H := by
  refine ws_of (ps_for hp hc (pi_list pe_we) hg pss_wss hs) (h.mono fun v H1 ⟨T, xs, e, hT, Pv, h0, hk, hb, hd⟩ => ?_)
  subst e
  exact ⟨T, rfl, ⟨xs, SqL.of hT⟩, for_it walk_list Pv h0 (fun i σ' H' hi q => SqL.of (hk i σ' H' hi q)) (fun i x σ' H' H2 hi q y => by
    obtain ⟨e1, e2⟩ := y
    subst e1
    exact hb i x σ' H2 e2 q) hd⟩
end
theorem Dw.put {d il q : Addr} {ns : List Int} {H H1 : Hp} {u o : HO} (h0 : DK H d il ns) (w : Dw d il ns H H1) (hq : H q = none) (hl : H1 q = some u) (hu : ∀ xs, u ≠ .tup xs) : Dw d il ns H (L2.upd H1 q o) := by
  obtain ⟨n1, n2⟩ := h0.fr1 hq
  refine ⟨w.dk.x .upd n1 n2, fun x u hx e => ?_, w.tx.trans (.mut hl hu)⟩
  rw [upd_ne (ne_of_none e hq)]
  exact w.fr x u hx e
theorem Ls.off2 {H : Hp} {p q : Addr} {ds : List PyData} {u o : HO} (l : Ls H p ds) (hq : H q = some u) (hu : ∀ xs, u ≠ .lst xs) (ht : ∀ xs, u ≠ .tup xs) : Ls (L2.upd H q o) p ds := by
  obtain ⟨us, h1, h2⟩ := l
  refine ⟨us, ?_, h2.mono (.mut hq ht)⟩
  rw [upd_ne]
  · exact h1
  · intro e; subst e; rw [h1] at hq; exact hu us (Option.some.inj hq).symm
theorem putT_new {l : List Itm} {s : Sim} {h : Int} (hn : s ∉ l.map (·.1)) : putT l s h = l ++ [(s, h)] := by unfold putT; rw [if_neg hn]
/-- an item behind its faces -/
theorem VS.snoc {l : List Itm} {s : Sim} {h : Int} (VV : VS l) (hl : l.length < 60) (hs : Sx s) (hn : s ∉ l.map (·.1)) (h1 : -1000 ≤ h) (h2 : h ≤ 1000) (hf : ∀ f ∈ K47.fc s, ∃ h', (f, h') ∈ l ∧ h' ≤ h) : VS (l ++ [(s, h)]) := by
  have e := wo_none hn
  have := VV.put (s := s) (h := h) (by rw [e]; exact hl) (show Btw l s h from ⟨hs, h1, h2, hf, fun p hp hm => by
    obtain ⟨h', m', _⟩ := VV.fc p hp s hm
    exact absurd (List.mem_map.mpr ⟨_, m', rfl⟩) hn⟩)
  rw [e] at this; exact this
theorem VS.nil : VS [] := ⟨by simp, (fun p h => nomatch h), (fun p h => nomatch h), by simp, fun p h => nomatch h⟩
section
variable {P : Program} {w : World} {K : PySem.W.Frag} {mg : Str → Option Value} {base : Heap}
def spShape : Sp := fun vs H Q _ => ∃ (d il : Addr) (ns : List Int), vs = [V.ref d] ∧ DK H d il ns ∧ ∀ (p : Addr) (l : List Itm) H', H p = none → Dw d il ns H H' → Ls H' p (l.map eTI) → VS l → l ≠ [] → Q (.ref p) H'
abbrev N65 : List Str := ["_law_deck_here", "_law_wide", "_law_heights", "_law_simplex", "_law_low", "_law_left", "_law_k", "_law_face"]
theorem sc_65 : FnScope N65 ["_law_deck_here"] (defScope (top 65)) := ⟨rfl, rfl, rfl, by decide +kernel, rfl, by decide +kernel, by decide +kernel⟩
abbrev W65 : List Nat := [3, 4, 5, 6, 7]
theorem ok_lshape (M : Mg mg) (S : Stands K mg "_law_shape" 65) (DF : Df0 P w K mg base "_law_faces" 1 (spN rLFac)) (DD : Df0 P w K mg base "_law_draw" 1 spDraw) (DS : Df0 P w K mg base "_law_simplices" 2 spSim) : Df0 P w K mg base "_law_shape" 3 spShape := by
  refine mk_def S sc_65 (fun vs H Q E h => by obtain ⟨_, _, _, rfl, _⟩ := h; rfl) (fun _ _ _ _ _ _ us hl => match us, hl with | [_], _ => rfl) fun f cdv A outer s H vs Q E hr h => ?_
  obtain ⟨d, il, ns, rfl, hDK, q'⟩ := h
  have hu : (A.deeper (envOfC "_law_shape" (defScope (top 65)) s.heap.objs.size f cdv)).units + 100 < cLine := by have := hr.un; omega
  have hu1 : (A.deeper (envOfC "_law_shape" (defScope (top 65)) s.heap.objs.size f cdv)).units + 1 < cLine := by omega
  have hv : L2.start N65 [V.ref d] = [some (.ref d), none, none, none, none, none, none, none] := rfl
  rw [hv]
  have S0 : Sl H [some (V.ref d), none, none, none, none, none, none, none] [none, none, none, none, none, none, none, none] := ⟨rfl, fun i r z => by
    match i with
    | 0 => cases z
    | 1 => cases z
    | 2 => cases z
    | 3 => cases z
    | 4 => cases z
    | 5 => cases z
    | 6 => cases z
    | 7 => cases z
    | i + 8 => cases z⟩
  -- wide
  refine wss_cons (ws_setW 1 sc_65.nd ((pd_ix (xs := [1, 2, 3, 9, 700]) (k := 0) (d := d) (il := il) (ns := ns) rfl ((pun_lst (ds := [.int 1, .int 2, .int 3, .int 9, .int 700]) (pua_cons pu_int (pua_cons pu_int (pua_cons pu_int (pua_cons pu_int (pua_cons pu_int pua_nil)))))).pu.to rfl) (pd_drawP (i := 5) DD.df (hr.mono (by decide)) rfl pu_int (by decide) (by decide)) (fun i h => h)) _ H S0 rfl hDK _ fun wd H1 hwd w1 => ?_))
  have hwd0 : 0 < wd ∧ wd ≤ 700 := by
    simp only [List.mem_cons, List.not_mem_nil, or_false] at hwd
    omega
  clear hwd
  show WSs _ _ _ [some (V.ref d), some (.int wd), none, none, none, none, none, none] H1
  -- heights
  refine wss_cons (ws_setW 2 sc_65.nd (we_of pe_dnewT fun hd hhd => ?_))
  show WSs _ _ _ [some (V.ref d), some (.int wd), some (.ref hd), none, none, none, none, none] _
  have hd0 : H hd = none := w1.free hhd
  have w2 : Dw d il ns H (upd H1 hd (.dT [])) := w1.step (same_new hhd)
  have e2 : (upd H1 hd (.dT [])) hd = some (.dT (encT [])) := upd_same
  generalize upd H1 hd (.dT []) = H2 at w2 e2
  generalize hσc : [some (V.ref d), some (.int wd), some (.ref hd), none, none, none, none, none] = σc
  have g0 : ∀ σ', wipe σ' W65 = wipe σc W65 → σ'[0]? = some (some (V.ref d)) := fun σ' hw => by rw [wipe_get hw (by decide), ← hσc]; rfl
  have g2 : ∀ σ', wipe σ' W65 = wipe σc W65 → σ'[2]? = some (some (V.ref hd)) := fun σ' hw => by rw [wipe_get hw (by decide), ← hσc]; rfl
  have SL : ∀ (H' : Hp) (σ' : L2.St) (l : List Itm), wipe σ' W65 = wipe σc W65 → H' hd = some (.dT (encT l)) → Sl H' σ' [none, some (.d (.int wd)), some (.t l), none, none, none, none, none] := fun H' σ' l hw h1 => by
    refine Sl.wiped (σ := σc) (W := W65) ?_ hw bare_of
    subst hσc
    exact ⟨rfl, fun i r z => by
      match i with
      | 0 => cases z
      | 1 => cases z; exact ⟨_, rfl, .int _⟩
      | 2 => cases z; exact ⟨_, rfl, hd, rfl, .inl h1⟩
      | 3 => cases z
      | 4 => cases z
      | 5 => cases z
      | 6 => cases z
      | 7 => cases z
      | i + 8 => cases z⟩
  have wset : ∀ (σ' : L2.St) (i : Nat) (x : Option V), i ∈ W65 → wipe σ' W65 = wipe σc W65 → wipe (σ'.set i x) W65 = wipe σc W65 := fun σ' i x hi hw => (wipe_set hi).trans hw
  have kd : ∀ {H' H'' : Hp} {l : List Itm}, DK H' d il ns → Dw d il ns H' H'' → H' hd = some (.dT (encT l)) → H'' hd = some (.dT (encT l)) := fun h0 ww he => by
    refine ww.fr _ _ ?_ he
    simp
    intro e
    obtain ⟨_, c, p, sd, k, _, h1, _⟩ := h0
    subst e
    rw [h1] at he; cases he
  -- for simplex in simplices(deck)
  refine wss_cons (ws_forW (g := gName 3) (pg_name sc_65.nd rfl (Or.inl rfl)) (we_call DS.df (hr.mono (by decide)) (wa_cons (we_name 0 (g0 _ rfl) (wa_nil fun E' => ⟨d, il, ns, rfl, w2.dk, fun p fs H3 np w3 lp O hne => ?_⟩)))))
  have w03 := w2.trans w3
  have e3 := kd w2.dk w3 e2
  obtain ⟨vs, hvs, al⟩ := lp
  have hfl := O.len
  have hvl : vs.length = fs.length := by rw [al.length, List.length_map]
  refine ⟨p, vs, rfl, hvs, fun i σ' H' => wipe σ' W65 = wipe σc W65 ∧ Dw d il ns H H' ∧ (H' p = some (.lst vs) ∧ ImAll H' vs (fs.map eS)) ∧ ∃ l, H' hd = some (.dT (encT l)) ∧ VS l ∧ l.map (·.1) = fs.take i, ⟨rfl, w03, ⟨hvs, al⟩, [], e3, VS.nil, by simp⟩, fun i σ' H' _ hP => hP.2.2.1.1, fun i x σ' H' hx hP => ?_, fun σ' H' hP => ?_⟩
  · obtain ⟨hw, wd', ⟨hp, al'⟩, l, hl, VV, hk⟩ := hP
    obtain ⟨dd, hdd, im⟩ := al'.get' hx
    rw [List.getElem?_map] at hdd
    cases hsi : fs[i]? with
    | none => rw [hsi] at hdd; cases hdd
    | some t =>
    rw [hsi] at hdd
    cases hdd
    have hi : i < fs.length := (List.getElem?_eq_some_iff.mp hsi).1
    have tki : fs.take (i + 1) = fs.take i ++ [t] := by
      obtain ⟨h1, h2⟩ := List.getElem?_eq_some_iff.mp hsi
      rw [List.take_succ_eq_append_getElem h1, h2]
    have hts : Sx t := O.sx t (List.mem_of_getElem? hsi)
    have hll : l.length = i := by have := congrArg List.length hk; rw [List.length_map, List.length_take] at this; omega
    have hnt : t ∉ l.map (·.1) := fun hm => by
      rw [hk] at hm
      have nd : (fs.take i ++ [t]).Nodup := by rw [← tki]; exact (List.take_sublist _ _).nodup O.nd
      exact (List.nodup_append.mp nd).2.2 t hm t (by simp) rfl
    have hfm : ∀ f ∈ fc t, f ∈ l.map (·.1) := fun f hf => by rw [hk]; exact O.fb i t hsi f hf
    show WSs _ _ _ (σ'.set 3 (some x)) H'
    have hw3 := wset σ' 3 (some x) (by simp) hw
    have S3 := (SL H' σ' l hw hl).set 3 (r := .d (eS t)) im
    have h33 : (σ'.set 3 (some x))[3]? = some (some x) := List.getElem?_set_self (by have := (SL H' σ' l hw hl).len; simp at this; omega)
    generalize σ'.set 3 (some x) = σ3 at hw3 S3 h33
    -- low
    refine wss_cons (ws_setLc 4 S3 ((lcd1a (xs := lf t) (enc := eS) N65 (defScope (top 65)) 7 (fun f => .int (lkh l f)) (src_list (pun_call DF.df (hr.mono (by decide)) (pua_cons (pu_var 3) pua_nil) ⟨t, hts, rfl, rfl⟩).pu) sc_65.nd (by unfold lf; rw [List.length_reverse]; have := fc_len (s := t); omega)
      (fun f hf _ _ _ _ _ => pu_getT hu1 (pu_var 2) (pu_var 7) (lkT_lkh (hfm f (by unfold lf at hf; simpa using hf))))).to (ds' := ((lf t).map (lkh l)).map .int) (by rw [List.map_map]; rfl)) fun la H4 n4 s4 l4 => ?_)
    have hw4 := wset σ3 4 (some (.ref la)) (by simp) hw3
    have S4 := (S3.mono s4).set 4 (r := .l (((lf t).map (lkh l)).map .int)) ⟨la, rfl, l4⟩
    have h34 : (σ3.set 4 (some (V.ref la)))[3]? = some (some x) := by rw [List.getElem?_set_ne (by decide)]; exact h33
    generalize σ3.set 4 (some (V.ref la)) = σ4 at hw4 S4 h34
    have wd4 := wd'.step s4
    have hp4 := s4 _ _ hp
    have al4 := al'.mono (.of s4)
    have hl4 := s4 _ _ hl
    have im4 := im.mono (.of s4)
    -- behind the test: a list lo at slot 4
    have rest : ∀ (H5 : Hp) (σ5 : L2.St) (lo : List Int), wipe σ5 W65 = wipe σc W65 → σ5[3]? = some (some x) → Dw d il ns H H5 → H5 p = some (.lst vs) → ImAll H5 vs (fs.map eS) → H5 hd = some (.dT (encT l)) → Im H5 x (eS t) → (∃ lb, σ5[4]? = some (some (.ref lb)) ∧ Ls H5 lb (lo.map .int)) → lo ≠ [] → (∀ y ∈ lo, -1000 ≤ y ∧ y ≤ 1000) → (∀ f ∈ fc t, lkh l f ∈ lo) →
        WSs (cxOf CX0 P w K mg base N65 "_law_shape" (defScope (top 65)) f cdv A outer s H E).nox [((match (defBody (top 65))[2]? with | some (.For _ _ b _ _) => b | _ => [])[2]?.getD (.Pass ⟨0, 0, 0, 0⟩))] { nx := fun σ' H' => wipe σ' W65 = wipe σc W65 ∧ Dw d il ns H H' ∧ (H' p = some (.lst vs) ∧ ImAll H' vs (fs.map eS)) ∧ ∃ l, H' hd = some (.dT (encT l)) ∧ VS l ∧ l.map (·.1) = fs.take (i + 1), ct := fun σ' H' => wipe σ' W65 = wipe σc W65 ∧ Dw d il ns H H' ∧ (H' p = some (.lst vs) ∧ ImAll H' vs (fs.map eS)) ∧ ∃ l, H' hd = some (.dT (encT l)) ∧ VS l ∧ l.map (·.1) = fs.take (i + 1), bk := fun σ' H' => WSs (cxOf CX0 P w K mg base N65 "_law_shape" (defScope (top 65)) f cdv A outer s H E).nox ((defBody (top 65)).drop 3) { nx := fun _ H' => Q .non H', rt := Q } σ' H', rt := Q } σ5 H5 := by
      intro H5 σ5 lo hw5 h35 wd5 hp5 al5 hl5 im5 ⟨lb, h45, llo⟩ hne0 hrg hin
      have S5 := ((SL H5 σ5 l hw5 hl5).add 3 (r := .d (eS t)) h35 im5).add 4 (r := .l (lo.map .int)) h45 ⟨lb, rfl, llo⟩
      obtain ⟨m, hm1, hm2⟩ := max_ex hne0
      refine wss_one (ws_putD hu1 ((pd_min2 (k := 0) (d := d) (il := il) (ns := ns) M rfl (pd_pu (pu_int (i := 1000))) (pd_add rfl (pd_pu (pu_max (m := m) M rfl (pu_var 4) hm1 hm2)) (pd_drawP (i := wd) DD.df (hr.mono (by decide)) rfl (pu_var 1) hwd0.1 (by omega)))) σ5 H5 S5 (g0 _ hw5) wd5.dk _ fun z H6 hz w6 => we_name 2 (g2 _ hw5) (we_name 3 h35 ?_)))
      obtain ⟨i1, j1, rfl, ⟨i2, j2, rfl, ⟨hj0, hj1⟩, rfl⟩, hz⟩ := hz
      have wd6 := wd5.trans w6
      have hl6 := kd wd5.dk w6 hl5
      have hmr := hrg _ hm1
      have hp6 : H6 p = some (.lst vs) := w6.fr _ _ (by simp; exact fun e => by subst e; exact wd5.dk.nls ⟨vs, hp5, al5⟩) hp5
      have al6 := al5.mono w6.tx
      obtain ⟨kb, rfl, hkb⟩ := Im.tup_ints (Im.mono w6.tx im5)
      have hzl : (encT l).length < sizeLine := by
        have e1 : (encT l).length = l.length := by simp [encT]
        rw [e1]
        exact Nat.lt_of_le_of_lt (show l.length ≤ 60 by omega) (by decide)
      refine ⟨hd, upd H6 hd (.dT (putK (encT l) (t.map Sum.inl) (V.int z))), rfl, DPut.t hl6 (by rw [kv_ints]; exact hkb) hzl, ?_⟩
      rw [putT_enc, putT_new hnt]
      have lp6 : Ls H6 p (fs.map eS) := ⟨vs, hp6, al6⟩
      refine ⟨hw5, wd6.put hDK hd0 hl6 (fun _ z => nomatch z), ⟨?_, al6.mono (.mut hl6 fun _ z => nomatch z)⟩, l ++ [(t, z)], upd_same, VV.snoc (by omega) hts hnt (by omega) (by omega) (fun f hf => ⟨lkh l f, lkh_mem (hfm f hf), ?_⟩), by rw [List.map_append, hk, tki]; rfl⟩
      · rw [upd_ne (ne_of hp6 hl6 fun z => nomatch z)]; exact hp6
      · have := hm2 _ (hin f hf)
        have := hrg _ (hin f hf)
        omega
    -- if len(low) == 0
    refine wss_cons (ws_if (b := decide (((lf t).length : Int) = 0)) S4 ((put_cmp op_eq rv_eqI (by rfl) (pu_lenL M (pu_var 4)) pu_int).to (by rw [List.length_map, List.length_map])) (fun hc H5 s5 => ?_) fun hc H5 s5 => wss_nil ?_)
    · have S5 := S4.mono s5
      refine wss_one (ws_setW 4 sc_65.nd (we_lst (wa_cons ((pd_sub (k := 0) (d := d) (il := il) (ns := ns) rfl (pd_drawP (i := 2 * wd) DD.df (hr.mono (by decide)) rfl (pu_mul pu_int (pu_var 1) (.inl ⟨by decide, by decide⟩)) (by omega) (by omega)) (pd_pu (pu_var 1))) σ4 H5 S5 (g0 _ hw4) (wd4.step s5).dk _ fun z H6 hz w6 => wa_nil ⟨by show 1 ≤ sizeLine; decide, fun lb hlb => ?_⟩))))
      obtain ⟨i1, j1, ⟨hi0, hi1⟩, rfl, hz⟩ := hz
      have wd5 := wd4.step s5
      have wd6 := wd5.trans w6
      have hp6 : H6 p = some (.lst vs) := w6.fr _ _ (by simp; exact fun e => by subst e; exact wd5.dk.nls ⟨vs, s5 _ _ hp4, al4.mono (.of s5)⟩) (s5 _ _ hp4)
      refine rest _ _ [z] (wset σ4 4 _ (by simp) hw4) (by rw [List.getElem?_set_ne (by decide)]; exact h34) (wd6.step (same_new hlb)) ((same_new hlb) _ _ hp6) (((al4.mono (.of s5)).mono w6.tx).mono (.new hlb)) ((same_new hlb) _ _ (kd wd5.dk w6 (s5 _ _ hl4))) ((((im4.mono (.of s5)).mono w6.tx)).mono (.new hlb)) ⟨lb, List.getElem?_set_self (by have := S4.len; simp at this; omega), Ls.of_ints upd_same⟩ (by simp) (fun y hy => by rw [List.mem_singleton.mp hy]; omega) (fun f hf => ?_)
      have hc : ((lf t).length : Int) = 0 := of_decide_eq_true hc
      have : lf t = [] := List.length_eq_zero_iff.mp (by omega)
      unfold lf at this
      rw [List.reverse_eq_nil_iff] at this
      rw [this] at hf; cases hf
    · have hc : ¬ ((lf t).length : Int) = 0 := of_decide_eq_false hc
      obtain ⟨u4, h44, a44⟩ := S4.at_ 4 (.l (((lf t).map (lkh l)).map .int)) rfl
      obtain ⟨lb, rfl, llo⟩ := a44
      refine rest H5 σ4 ((lf t).map (lkh l)) hw4 h34 (wd4.step s5) (s5 _ _ hp4) (al4.mono (.of s5)) (s5 _ _ hl4) (im4.mono (.of s5)) ⟨lb, h44, llo.mono s5⟩ (fun e => ?_) (fun y hy => ?_) (fun f hf => ?_)
      · have := congrArg List.length e
        rw [List.length_map] at this
        exact hc (by simp at this; rw [this]; rfl)
      · obtain ⟨f, hf, rfl⟩ := List.mem_map.mp hy
        exact VV.ht _ (lkh_mem (hfm f (by unfold lf at hf; simpa using hf)))
      · exact List.mem_map.mpr ⟨f, by unfold lf; simpa using hf, rfl⟩
  obtain ⟨hw, wdE, ⟨hp, al'⟩, l, hl, VV, hk⟩ := hP
  rw [hvl, List.take_length] at hk
  have hln : l ≠ [] := fun e => by rw [e] at hk; exact hne hk.symm
  have hlen := VV.len
  clear hvs al hp al' e3 w03 e2
  -- left
  refine wss_cons (ws_setW 5 sc_65.nd (we_items M 2 (g2 _ hw) hl fun L H4 nL s4 lL => ?_))
  have hw5 := wset σ' 5 (some (.ref L)) (by simp) hw
  have h55 : (σ'.set 5 (some (V.ref L)))[5]? = some (some (.ref L)) := List.getElem?_set_self (by have := (SL H' σ' l hw hl).len; simp at this; omega)
  have S5l := ((SL H' σ' l hw hl).set0 (v := V.ref L) 5).len
  generalize σ'.set 5 (some (V.ref L)) = σ5 at hw5 h55 S5l
  have w4 := wdE.step s4
  have hl4 := s4 _ _ hl
  have hL0 : H L = none := wdE.free nL
  have hel : (encT l).length = l.length := by simp [encT]
  -- the comprehension
  refine wss_one (ws_retW (we_lcR N65 (defScope (top 65)) 6 M sc_65.nd (we_cB call_len_dT M.len boot_len (wa_cons (we_name 2 (g2 _ hw5) (wa_nil ⟨hd, encT l, rfl, hl4, l.length, by rw [hel], by omega, fun D hD => ?_⟩))))))
  have hD0 : H D = none := w4.free hD
  have nLD : L ≠ D := fun e => by subst e; exact ls_not_none lL hD
  obtain ⟨nd1, nd2⟩ := hDK.fr1 hL0
  obtain ⟨nd3, nd4⟩ := hDK.fr1 hD0
  refine ⟨fun i acc H' => ∃ (got rest : List Itm), ImAll H' acc (got.map eTI) ∧ got.length = i ∧ H' D = some (.lst acc) ∧ Ls H' L (rest.map eTI) ∧ (got ++ rest).Perm l ∧ Dw d il ns H H', ⟨[], l, .nil, rfl, upd_same, lL.mono (same_new hD), .refl _, w4.step (same_new hD)⟩, fun i acc H' hi hP => ?_, fun acc H' hP => ?_⟩
  · obtain ⟨got, rst, ag, hgl, hDl, hLl, hpm, wH⟩ := hP
    refine ⟨by rw [ag.length, List.length_map]; exact hgl, fun s0 H0 C cl fp => ?_⟩
    have hrl : rst.length + i = l.length := by
      have := hpm.length_eq
      rw [List.length_append] at this
      omega
    have h65 : ((wipe σ5 [6]).set 6 (some (V.int (i : Nat))))[5]? = some (some (.ref L)) := by rw [List.getElem?_set_ne (by decide), wipe_out (by decide)]; exact h55
    have h60 : ((wipe σ5 [6]).set 6 (some (V.int (i : Nat))))[0]? = some (some (.ref d)) := by rw [List.getElem?_set_ne (by decide), wipe_out (by decide)]; exact g0 _ hw5
    have h6l : ((wipe σ5 [6]).set 6 (some (V.int (i : Nat)))).length = 8 := by rw [List.length_set, wipe_length]; exact S5l.symm
    generalize (wipe σ5 [6]).set 6 (some (V.int (i : Nat))) = σ6 at h65 h60 h6l
    have SE : Sl H' σ6 [none, none, none, none, none, some (.l (rst.map eTI)), none, none] := ⟨h6l.symm, fun i r z => by
      match i with
      | 0 => cases z
      | 1 => cases z
      | 2 => cases z
      | 3 => cases z
      | 4 => cases z
      | 5 => cases z; exact ⟨_, h65, L, rfl, hLl⟩
      | 6 => cases z
      | 7 => cases z
      | i + 8 => cases z⟩
    obtain ⟨xs0, hx0, _⟩ := id hLl
    refine we_popAt (we_name 5 h65 ⟨L, rfl, ⟨_, hx0⟩, (pd_drawP (k := 0) (d := d) (il := il) (ns := ns) (i := (rst.length : Int)) DD.df (hr.mono (by decide)) rfl ((pu_lenL M (pu_var 5)).to (by rw [List.length_map])) (by omega) (by omega)) σ6 H' SE h60 wH.dk _ fun v H3 hv3 w3 => ?_⟩)
    obtain ⟨v0, v1⟩ := hv3
    have hlt : v.toNat < rst.length := by omega
    have hL3 := hLl.dw wH.dk w3
    have hD3 : H3 D = some (.lst acc) := w3.fr _ _ (by simpa using nd3.symm) hDl
    have w03 := wH.trans w3
    obtain ⟨xs, hx1, hx2⟩ := id hL3
    obtain ⟨y, hy1, hy2⟩ := hx2.get (i := v.toNat) (d := eTI rst[v.toNat]) (by rw [List.getElem?_map, List.getElem?_eq_getElem hlt]; rfl)
    have w4 : Dw d il ns H (upd H3 L (.lst (xs.eraseIdx v.toNat))) := w03.upd hDK hL0 hx1
    have t4 : Tx H3 (upd H3 L (.lst (xs.eraseIdx v.toNat))) := .mut hx1 fun _ z => nomatch z
    have hD4 : (upd H3 L (.lst (xs.eraseIdx v.toNat))) D = some (.lst acc) := by rw [upd_ne nLD.symm]; exact hD3
    have t5 : Tx (upd H3 L (.lst (xs.eraseIdx v.toNat))) (upd (upd H3 L (.lst (xs.eraseIdx v.toNat))) D (.lst (acc ++ [y]))) := .mut hD4 fun _ z => nomatch z
    refine ⟨xs, v.toNat, y, by rw [Int.toNat_of_nonneg v0], hx1, hy1, by omega, hD4, got ++ [rst[v.toNat]], rst.eraseIdx v.toNat, ?_, by simp; omega, upd_same, ⟨xs.eraseIdx v.toNat, by rw [upd_ne nLD, upd_same], ?_⟩, ?_, w4.upd hDK hD0 hD4⟩
    · rw [List.map_append]
      exact ((((ag.mono w3.tx).mono t4).mono t5)).append (.cons (((hy2.mono t4).mono t5)) .nil)
    · have := hx2.eraseIdx v.toNat
      rw [map_erase] at this
      exact (this.mono t4).mono t5
    · rw [List.append_assoc]
      exact ((erase_perm hlt).append_left got).trans hpm
  obtain ⟨got, rst, ag, hgl, hDl, hLl, hpm, wH⟩ := hP
  have hr0 : rst = [] := by
    have := hpm.length_eq
    rw [List.length_append] at this
    exact List.length_eq_zero_iff.mp (by omega)
  subst hr0
  rw [List.append_nil] at hpm
  exact q' D got H' hD0 wH ⟨acc, hDl, ag⟩ (VV.perm hpm) (fun e => by subst e; exact hln hpm.symm.eq_nil)
end
end K47
/-! Q7: _law_good_edit -/
namespace K47
open PySem PySem.Spec PyProof.Rows L2
theorem min_ex {c : List Int} (h : c ≠ []) : ∃ m ∈ c, ∀ x ∈ c, m ≤ x := by
  induction c with
  | nil => exact absurd rfl h
  | cons a r ih =>
    by_cases e : r = []
    · subst e; exact ⟨a, by simp, by simp⟩
    · obtain ⟨m, h1, h2⟩ := ih e
      by_cases z : m ≤ a
      · refine ⟨m, by simp [h1], fun x hx => ?_⟩
        rcases List.mem_cons.mp hx with q | q
        · omega
        · exact h2 x q
      · refine ⟨a, by simp, fun x hx => ?_⟩
        rcases List.mem_cons.mp hx with q | q
        · omega
        · have := h2 x q
          omega
/-- the longest -/
theorem long_ex {l : List Itm} (h : l ≠ []) : ∃ p ∈ l, ∀ x ∈ l, x.1.length ≤ p.1.length := by
  induction l with
  | nil => exact absurd rfl h
  | cons a r ih =>
    by_cases e : r = []
    · subst e; exact ⟨a, by simp, by simp⟩
    · obtain ⟨m, h1, h2⟩ := ih e
      by_cases z : a.1.length ≤ m.1.length
      · refine ⟨m, by simp [h1], fun x hx => ?_⟩
        rcases List.mem_cons.mp hx with q | q
        · rw [q]; exact z
        · exact h2 x q
      · refine ⟨a, by simp, fun x hx => ?_⟩
        rcases List.mem_cons.mp hx with q | q
        · rw [q]; exact Nat.le_refl _
        · have := h2 x q
          omega
theorem cofs_mem {l : List Itm} {s t : Sim} : t ∈ cofs l s ↔ t ∈ l.map (·.1) ∧ s ∈ fc t := by
  unfold cofs
  simp only [List.mem_map, List.mem_filter, decide_eq_true_eq]
  constructor
  · rintro ⟨p, ⟨h1, h2⟩, rfl⟩; exact ⟨⟨p, h1, rfl⟩, h2⟩
  · rintro ⟨⟨p, h1, rfl⟩, h2⟩; exact ⟨p, ⟨h1, h2⟩, rfl⟩
/-- the simplices without cofaces -/
def topsOf (l : List Itm) : List Sim := (l.filter fun p => decide (cofs l p.1 = [])).map (·.1)
theorem tops_ne {l : List Itm} (h : l ≠ []) : topsOf l ≠ [] := fun e => by
  obtain ⟨p, hp, hm⟩ := long_ex h
  have : p.1 ∈ topsOf l := by
    refine List.mem_map.mpr ⟨p, List.mem_filter.mpr ⟨hp, decide_eq_true ?_⟩, rfl⟩
    rw [List.eq_nil_iff_forall_not_mem]
    intro t ht
    obtain ⟨h1, h2⟩ := cofs_mem.mp ht
    obtain ⟨x, hx, rfl⟩ := List.mem_map.mp h1
    have := hm x hx
    have := fc_ne h2
    omega
  rw [e] at this; cases this
theorem tops_can {l : List Itm} {s : Sim} (h : s ∈ topsOf l) : Can l (.tk s) := by
  obtain ⟨p, hp, rfl⟩ := List.mem_map.mp h
  obtain ⟨h1, h2⟩ := List.mem_filter.mp hp
  have h2 : cofs l p.1 = [] := of_decide_eq_true h2
  refine ⟨List.mem_map.mpr ⟨p, h1, rfl⟩, fun x hx hf => ?_⟩
  have : x.1 ∈ cofs l p.1 := cofs_mem.mpr ⟨List.mem_map.mpr ⟨x, hx, rfl⟩, hf⟩
  rw [h2] at this; cases this
section
variable {X : Cx} {Γ : Gm} {σ : L2.St} {H : Hp} {k : Nat} {d il : Addr} {ns : List Int} {a b e o tg : Expr} {pos : Pos} {φ : Int → Prop} {ds : List PyData} {Q : VK} {D : Ends} {g : TG}
theorem we_pd (S : Sl H σ Γ) (hv : σ[k]? = some (some (V.ref d))) (hd : DK H d il ns) (h : PuD X Γ k d il ns e φ) (q : ∀ i H', φ i → Dw d il ns H H' → Q (.int i) H') : WE X e σ H Q := h σ H S hv hd Q q
theorem we_ixDw (S : Sl H σ Γ) (hΓ : Γ.all noXo = true) (hv : σ[k]? = some (some (V.ref d))) (hd : DK H d il ns) (ha : Pu X Γ o (.l ds)) (hb : PuD X Γ k d il ns b φ) (h : ∀ i, φ i → 0 ≤ i ∧ i < ds.length) (q : ∀ i v dd H', φ i → ds[i.toNat]? = some dd → Im H' v dd → Dw d il ns H H' → Q v H') (hs : PlainIx b := by exact fun _ _ => rfl) : WE X (.Subscript o b pos) σ H Q :=
  we_ixL (ha σ H S _ fun v H1 s1 a1 => hb σ H1 (S.mono s1) hv (hd.mono s1) _ fun i H2 hi w2 => by
    have a2 := At.dw (r := .l ds) w2 (hd.mono s1) rfl a1
    obtain ⟨q', rfl, us, l1, l2⟩ := a2
    obtain ⟨h1, h2⟩ := h i hi
    have hlt : i.toNat < ds.length := by omega
    obtain ⟨y, hy1, hy2⟩ := l2.get (i := i.toNat) (List.getElem?_eq_getElem hlt)
    exact ⟨q', us, i, y, rfl, rfl, l1, atI_nat' (n := i.toNat) hy1 (by omega), q i y _ H2 hi (List.getElem?_eq_getElem hlt) hy2 ((Dw.same hd s1).trans w2)⟩) hs
theorem ws_asgW (hg : PG X tg g) (h : WE X e σ H fun v H' => g v σ H' fun σ' H'' => D.nx σ' H'') (hs : swapsWithSole [tg] e pos.line X.env = pure false := by rfl) (hw : swappedStores [tg] e X.env = pure none := by rfl)
    (h1 : (assignEach [tg] X.env).map (·.2) = [assign tg X.env] := by rfl) : WS X (.Assign [tg] e pos) D σ H := ws_of (ps_asg pe_we hg hs hw h1) h
end
section
variable {P : Program} {w : World} {K : PySem.W.Frag} {mg : Str → Option Value} {base : Heap}
def spGood : Sp := fun vs H Q _ => ∃ (d il q : Addr) (ns : List Int) (l : List Itm), vs = [V.ref d, .ref q] ∧ DK H d il ns ∧ Ls H q (l.map eTI) ∧ VS l ∧ ∀ (v : V) (e : Ed) H', Im H' v (eE e) → Can l e → Dw d il ns H H' → Q v H'
abbrev N70 : List Str := ["_law_deck_here", "_law_items", "_law_heights", "_law_kind", "_law_simplex", "_law_low", "_law_tops", "_law_height", "_law_high", "_law_wide", "_law_face", "_law_other"]
theorem sc_70 : FnScope N70 ["_law_deck_here", "_law_items"] (defScope (top 70)) := ⟨rfl, rfl, rfl, by decide +kernel, rfl, by decide +kernel, by decide +kernel⟩
abbrev W70 : List Nat := [4, 5, 6, 7, 8, 9, 10, 11]
abbrev G70 (l : List Itm) (kind : Int) : Gm := [none, some (.l (l.map eTI)), some (.t l), some (.d (.int kind)), none, none, none, none, none, none, none, none]
theorem ok_lgood (M : Mg mg) (S : Stands K mg "_law_good_edit" 70) (DF : Df0 P w K mg base "_law_faces" 1 (spN rLFac)) (DD : Df0 P w K mg base "_law_draw" 1 spDraw) (DA : Df0 P w K mg base "_law_anew" 2 spAnew) (DC : Df0 P w K mg base "_law_cofaces" 2 (spN rLCo)) : Df0 P w K mg base "_law_good_edit" 3 spGood := by
  refine mk_def S sc_70 (fun vs H Q E h => by obtain ⟨_, _, _, _, _, rfl, _⟩ := h; rfl) (fun _ _ _ _ _ _ us hl => match us, hl with | [_, _], _ => rfl) fun f cdv A outer s H vs Q E hr h => ?_
  obtain ⟨d, il, q, ns, l, rfl, hDK, hl, VV, q'⟩ := h
  have hu : (A.deeper (envOfC "_law_good_edit" (defScope (top 70)) s.heap.objs.size f cdv)).units + 100 < cLine := by have := hr.un; omega
  have hu1 : (A.deeper (envOfC "_law_good_edit" (defScope (top 70)) s.heap.objs.size f cdv)).units + 1 < cLine := by omega
  have hu64 : (A.deeper (envOfC "_law_good_edit" (defScope (top 70)) s.heap.objs.size f cdv)).units + 64 < cLine := by omega
  have hlen := VV.len
  have hv : L2.start N70 [V.ref d, .ref q] = [some (.ref d), some (.ref q), none, none, none, none, none, none, none, none, none, none] := rfl
  rw [hv]
  have S0 : Sl H [some (V.ref d), some (.ref q), none, none, none, none, none, none, none, none, none, none] [none, some (.l (l.map eTI)), none, none, none, none, none, none, none, none, none, none] := ⟨rfl, fun i r z => by
    match i with
    | 0 => cases z
    | 1 => cases z; exact ⟨_, rfl, q, rfl, hl⟩
    | 2 => cases z
    | 3 => cases z
    | 4 => cases z
    | 5 => cases z
    | 6 => cases z
    | 7 => cases z
    | 8 => cases z
    | 9 => cases z
    | 10 => cases z
    | 11 => cases z
    | i + 12 => cases z⟩
  -- heights
  refine wss_cons (ws_setW 2 sc_70.nd (we_dictT M hu S0 (pu_var 1) VV.nd fun hd H1 n1 s1 hd1 => ?_))
  have S1 := (S0.mono s1).set 2 (r := .t l) ⟨hd, rfl, .inl hd1⟩
  show WSs _ _ _ [some (V.ref d), some (.ref q), some (.ref hd), none, none, none, none, none, none, none, none, none] H1
  have w1 : Dw d il ns H H1 := .same hDK s1
  -- kind
  refine wss_cons (ws_setW 3 sc_70.nd ((pd_drawP (k := 0) (d := d) (il := il) (ns := ns) (i := 5) DD.df (hr.mono (by decide)) rfl pu_int (by decide) (by decide)) _ H1 S1 rfl w1.dk _ fun kind H2 hk w2 => ?_))
  have S2 : Sl H2 [some (V.ref d), some (.ref q), some (.ref hd), some (.int kind), none, none, none, none, none, none, none, none] (G70 l kind) := (S1.dw w2 w1.dk rfl).set 3 (r := .d (.int kind)) (.int _)
  show WSs _ _ _ [some (V.ref d), some (.ref q), some (.ref hd), some (.int kind), none, none, none, none, none, none, none, none] H2
  have w02 := w1.trans w2
  generalize hσc : [some (V.ref d), some (.ref q), some (.ref hd), some (.int kind), none, none, none, none, none, none, none, none] = σc at S2
  have g0 : ∀ σ', wipe σ' W70 = wipe σc W70 → σ'[0]? = some (some (V.ref d)) := fun σ' hw => by rw [wipe_get hw (by decide), ← hσc]; rfl
  have g1 : σc[1]? = some (some (V.ref q)) := by rw [← hσc]; rfl
  have wset : ∀ (σ' : L2.St) (i : Nat) (x : Option V), i ∈ W70 → wipe σ' W70 = wipe σc W70 → wipe (σ'.set i x) W70 = wipe σc W70 := fun σ' i x hi hw => (wipe_set hi).trans hw
  -- behind the first if
  have rest : ∀ (H3 : Hp) (σ3 : L2.St), wipe σ3 W70 = wipe σc W70 → Sl H3 σ3 (G70 l kind) → Dw d il ns H H3 → l ≠ [] → WSs (cxOf CX0 P w K mg base N70 "_law_good_edit" (defScope (top 70)) f cdv A outer s H E).nox ((defBody (top 70)).drop 3) { nx := fun _ H' => Q .non H', rt := Q } σ3 H3 := by
    intro H3 σ3 hw3 S3 w3 hne
    have hlp : 0 < l.length := List.length_pos_iff.mpr hne
    refine wss_cons (ws_if (b := decide (kind = 1)) S3 ((put_cmp op_eq rv_eqI (by rfl) (pu_var 3) pu_int).to (by simp)) (fun hc H4 s4 => ?_) fun hc H4 s4 => wss_nil ?_)
    · -- take
      have S4 := S3.mono s4
      have w4 := w3.step s4
      refine wss_cons (ws_setLc 6 S4 ((lcd2 (xs := l) (enc := eTI) (own := [("_law_simplex", 4), ("_law_height", 7)]) (g := g2 K 4 7) N70 (defScope (top 70)) (fun p => [none, some (.l (l.map eTI)), some (.t l), some (.d (.int kind)), some (.d (eS p.1)), none, none, some (.d (.int p.2)), none, none, none, none]) (fun p => decide (cofs l p.1 = [])) (fun p => eS p.1) (src_list (pu_var 1)) sc_70.nd (by omega)
        (fun _ _ _ _ _ => pg_2 4 7 sc_70.nd) (fun p _ => gd_2) (fun p hp _ _ _ _ _ => .one ?_) (fun p _ _ _ _ _ _ _ => pu_var 4)).to (ds' := (topsOf l).map eS) (by unfold topsOf; rw [List.map_map]; rfl)) fun ta H5 n5 s5 l5 => ?_)
      · exact (put_cmp (op_eqD hu64) (rv_eqL (sh_Ss (cofs l p.1)) (sh_Ss [])) (by rfl) (pun_call DC.df (hr.mono (by decide)) (pua_cons (pu_var 2) (pua_cons (pu_var 4) pua_nil)) ⟨l, p.1, VV, rfl, rfl⟩).pu (pun_lst (ds := []) pua_nil).pu).to (by cases cofs l p.1 <;> simp [PyData.eqv, PyData.eqvAll])
      have S5 := (S4.mono s5).set 6 (r := .l ((topsOf l).map eS)) ⟨ta, rfl, l5⟩
      have hw5 := wset σ3 6 (some (.ref ta)) (by simp) hw3
      generalize σ3.set 6 (some (V.ref ta)) = σ5 at S5 hw5
      have w5 := w4.step s5
      have htn := tops_ne hne
      have htp : 0 < (topsOf l).length := List.length_pos_iff.mpr htn
      have htl : (topsOf l).length ≤ 60 := by unfold topsOf; rw [List.length_map]; exact Nat.le_trans (List.length_filter_le _ _) hlen
      refine wss_one (ws_retW (we_tup (wa_cons (we_pu S5 (pu_str (i := "take")) fun v6 H6 s6 a6 => wa_cons (we_ixDw (k := 0) (d := d) (il := il) (ns := ns) (S5.mono s6) rfl (g0 _ hw5) (w5.step s6).dk (pu_var 6) (pd_drawP (i := ((topsOf l).length : Int)) DD.df (hr.mono (by decide)) rfl ((pu_lenL M (pu_var 6)).to (by rw [List.length_map])) (by omega) (by omega)) (fun i hi => by rw [List.length_map]; exact hi) fun i v dd H7 hi hdd im w7 => wa_nil ⟨by show 2 ≤ sizeLine; decide, fun p hp => ?_⟩)))))
      rw [List.getElem?_map] at hdd
      cases ht : (topsOf l)[i.toNat]? with
      | none => rw [ht] at hdd; cases hdd
      | some t =>
        rw [ht] at hdd
        cases hdd
        cases a6
        exact q' (.ref p) (.tk t) _ (.tup upd_same (.cons (.str _) (.cons (im.mono (.new hp)) .nil))) (tops_can (List.mem_of_getElem? ht)) (((w5.step s6).trans w7).step (same_new hp))
    · -- height
      have S4 := S3.mono s4
      have w4 := w3.step s4
      refine wss_cons (ws_asgW (g := g2 K 4 7) (pg_2 4 7 sc_70.nd) (we_ixDw (k := 0) (d := d) (il := il) (ns := ns) S4 rfl (g0 _ hw3) w4.dk (pu_var 1) (pd_drawP (i := (l.length : Int)) DD.df (hr.mono (by decide)) rfl ((pu_lenL M (pu_var 1)).to (by rw [List.length_map])) (by omega) (by omega)) (fun i hi => by rw [List.length_map]; exact hi) fun i v dd H5 hi hdd im w5 => ?_))
      rw [List.getElem?_map] at hdd
      cases hp : l[i.toNat]? with
      | none => rw [hp] at hdd; cases hdd
      | some p =>
      rw [hp] at hdd
      cases hdd
      obtain ⟨t, h0⟩ := p
      have hpm : (t, h0) ∈ l := List.mem_of_getElem? hp
      have htk : t ∈ l.map (·.1) := List.mem_map.mpr ⟨_, hpm, rfl⟩
      have hsx := VV.sx _ hpm
      have hbt := btw_of VV hpm
      refine gd_2 (vs := [4, 7]) (by simp) (by simp) v σ3 H5 im (S4.dw w5 w4.dk rfl) _ fun σ5 S5 hw5 => ?_
      have w5' := w4.trans w5
      have hw5 : wipe σ5 W70 = wipe σc W70 := (wipe_sub hw5 (by simp)).trans hw3
      have hflen : (lf t).length ≤ 3 := by unfold lf; rw [List.length_reverse]; exact fc_len
      -- low
      obtain ⟨lo, hlo1, hlo2⟩ := max_ex (c := (lf t).map (lkh l) ++ [-1000]) (by simp)
      refine wss_cons (ws_set 5 sc_70.nd S5 (pu_max (m := lo) M rfl ((pun_catL ((lcd1a (xs := lf t) (enc := eS) N70 (defScope (top 70)) 10 (fun f => .int (lkh l f)) (src_list (pun_call DF.df (hr.mono (by decide)) (pua_cons (pu_var 4) pua_nil) ⟨t, hsx, rfl, rfl⟩).pu) sc_70.nd (by omega)
        (fun f hf _ _ _ _ _ => pu_getT hu1 (pu_var 2) (pu_var 10) (lkT_lkh ?_))).to (ds' := ((lf t).map (lkh l)).map .int) (by rw [List.map_map]; rfl)).pun.pu (pun_lst (ds := [.int (-1000)]) (pua_cons (pu_neg pu_int) pua_nil)).pu (by simp; omega)).pu.to (by rw [List.map_append]; rfl)) hlo1 hlo2) fun v6 H6 s6 a6 => ?_)
      · obtain ⟨h', m', _⟩ := VV.fc _ hpm f (by unfold lf at hf; simpa using hf)
        exact List.mem_map.mpr ⟨_, m', rfl⟩
      cases a6
      have S6 := (S5.mono s6).set 5 (r := .d (.int lo)) (.int lo)
      have hw6 := wset σ5 5 (some (.int lo)) (by simp) hw5
      generalize σ5.set 5 (some (V.int lo)) = σ6 at S6 hw6
      have w6 := w5'.step s6
      -- high
      obtain ⟨hi, hhi1, hhi2⟩ := min_ex (c := (cofs l t).map (lkh l) ++ [1000]) (by simp)
      have hcl : (cofs l t).length ≤ 60 := by unfold cofs; rw [List.length_map]; exact Nat.le_trans (List.length_filter_le _ _) hlen
      refine wss_cons (ws_set 8 sc_70.nd S6 (pu_min (m := hi) M rfl ((pun_catL ((lcd1a (xs := cofs l t) (enc := eS) N70 (defScope (top 70)) 11 (fun f => .int (lkh l f)) (src_list (pun_call DC.df (hr.mono (by decide)) (pua_cons (pu_var 2) (pua_cons (pu_var 4) pua_nil)) ⟨l, t, VV, rfl, rfl⟩).pu) sc_70.nd (by omega)
        (fun f hf _ _ _ _ _ => pu_getT hu1 (pu_var 2) (pu_var 11) (lkT_lkh (cofs_mem.mp hf).1))).to (ds' := ((cofs l t).map (lkh l)).map .int) (by rw [List.map_map]; rfl)).pun.pu (pun_lst (ds := [.int 1000]) (pua_cons pu_int pua_nil)).pu (by simp; omega)).pu.to (by rw [List.map_append]; rfl)) hhi1 hhi2) fun v7 H7 s7 a7 => ?_)
      cases a7
      have S7 := (S6.mono s7).set 8 (r := .d (.int hi)) (.int hi)
      have hw7 := wset σ6 8 (some (.int hi)) (by simp) hw6
      generalize σ6.set 8 (some (V.int hi)) = σ7 at S7 hw7
      have w7 := w6.step s7
      -- wide
      refine wss_cons (ws_setW 9 sc_70.nd ((pd_ix (xs := [2, 7, 60]) (k := 0) (d := d) (il := il) (ns := ns) rfl ((pun_lst (ds := [.int 2, .int 7, .int 60]) (pua_cons pu_int (pua_cons pu_int (pua_cons pu_int pua_nil)))).pu.to rfl) (pd_drawP (i := 3) DD.df (hr.mono (by decide)) rfl pu_int (by decide) (by decide)) (fun i h => h)) _ H7 S7 (g0 _ hw7) w7.dk _ fun wd H8 hwd w8 => ?_))
      have hwd0 : 0 < wd ∧ wd ≤ 60 := by
        simp only [List.mem_cons, List.not_mem_nil, or_false] at hwd
        omega
      show WSs _ _ _ (σ7.set 9 (some (V.int wd))) H8
      have S8 := (S7.dw w8 w7.dk rfl).set 9 (r := .d (.int wd)) (.int wd)
      have hw8 := wset σ7 9 (some (.int wd)) (by simp) hw7
      generalize σ7.set 9 (some (V.int wd)) = σ8 at S8 hw8
      have w8' := w7.trans w8
      obtain ⟨v4, h84, im4⟩ := S8.at_ 4 (.d (eS t)) rfl
      refine wss_one (ws_retW ?_)
      refine we_tup ?_
      refine wa_cons (we_pu S8 (pu_str (i := "height")) fun v9 H9 s9 a9 => ?_)
      refine wa_cons (we_name 4 h84 ?_)
      refine wa_cons (we_pd (S8.mono s9) (g0 _ hw8) (w8'.step s9).dk (pd_max2 M rfl (pd_pu (pu_var 5)) (pd_min2 M rfl (pd_pu (pu_var 8)) (pd_sub rfl (pd_add rfl (pd_pu (pu_var 7)) (pd_drawP (i := 2 * wd) DD.df (hr.mono (by decide)) rfl (pu_mul pu_int (pu_var 9) (.inl ⟨by decide, by decide⟩)) (by omega) (by omega))) (pd_pu (pu_var 9))))) fun z H10 hz w10 => ?_)
      refine wa_nil ⟨by show 3 ≤ sizeLine; decide, fun p hp => ?_⟩
      cases a9
      obtain ⟨i1, j1, rfl, ⟨i2, j2, rfl, ⟨_, _, ⟨_, _, _, _, _⟩, _, _⟩, hj2⟩, hz⟩ := hz
      have wE := ((w8'.step s9).trans w10).step (same_new (o := .tup [.str "height", v4, .int z]) hp)
      have key : Can l (.ht t z) := by
        have q1 : i1 ≤ h0 := by
          rcases List.mem_append.mp hlo1 with y | y
          · obtain ⟨f, hf, e⟩ := List.mem_map.mp y
            obtain ⟨h', m', l'⟩ := hbt.2.2.2.1 f (by unfold lf at hf; simpa using hf)
            rw [← e, lkh_eq VV.nd m']; exact l'
          · have := List.mem_singleton.mp y
            have := hbt.2.1; omega
        have q2 : h0 ≤ i2 := by
          rcases List.mem_append.mp hhi1 with y | y
          · obtain ⟨f, hf, e⟩ := List.mem_map.mp y
            obtain ⟨h1, h2⟩ := cofs_mem.mp hf
            rw [← e]
            exact hbt.2.2.2.2 _ (lkh_mem h1) h2
          · have := List.mem_singleton.mp y
            have := hbt.2.2.1; omega
        have q3 : -1000 ≤ i1 := hlo2 _ (by simp)
        have q4 : i2 ≤ 1000 := hhi2 _ (by simp)
        have q5 : i1 ≤ z ∧ z ≤ i2 := by omega
        refine ⟨htk, hsx, by omega, by omega, fun f hf => ?_, fun p hp hf => ?_⟩
        · obtain ⟨h', m', l'⟩ := hbt.2.2.2.1 f hf
          have : lkh l f ≤ i1 := hlo2 _ (List.mem_append.mpr (.inl (List.mem_map.mpr ⟨f, by unfold lf; simpa using hf, rfl⟩)))
          rw [lkh_eq VV.nd m'] at this
          exact ⟨h', m', by omega⟩
        · have : i2 ≤ lkh l p.1 := hhi2 _ (List.mem_append.mpr (.inl (List.mem_map.mpr ⟨p.1, cofs_mem.mpr ⟨List.mem_map.mpr ⟨p, hp, rfl⟩, hf⟩, rfl⟩)))
          rw [lkh_eq VV.nd (show (p.1, p.2) ∈ l from hp)] at this
          omega
      exact q' (.ref p) (.ht t z) _ (.tup upd_same (.cons (.str _) (.cons ((((Im.mono (.of s9) im4)).mono w10.tx).mono (.new hp)) (.cons (.int _) .nil)))) key wE
  -- if kind == 0 or len(items) == 0
  refine wss_cons (ws_if (b := decide (kind = 0) || decide (l = [])) S2 ((PuB.t (pub_or (put_cmp op_eq rv_eqI (by rfl) (pu_var 3) pu_int) fun _ => pub_or1 (put_cmp op_eq rv_eqI (by rfl) (pu_lenL M (pu_var 1)) pu_int))).to (by cases l <;> simp <;> omega)) (fun hc H3 s3 => ?_) fun hc H3 s3 => wss_nil (rest H3 σc rfl (S2.mono s3) (w02.step s3) fun e => by subst e; simp at hc))
  have S3 := S2.mono s3
  have w3 := w02.step s3
  have hq3 : Ls H3 q (l.map eTI) := by
    obtain ⟨v, h1, a, e, h2⟩ := S3.at_ 1 (.l (l.map eTI)) rfl
    rw [g1] at h1
    cases h1
    cases e; exact h2
  refine wss_cons (ws_setW 4 sc_70.nd (we_call DA.df (hr.mono (by decide)) (wa_cons (we_name 0 (g0 _ rfl) (wa_cons (we_name 1 g1 (wa_nil fun E' => ⟨d, il, q, ns, l, rfl, w3.dk, hq3, VV, fun v t H4 im hnew dk4 f4 t4 => ?_, fun hne H4 dk4 f4 t4 => ?_⟩)))))))
  · -- a simplex
    show WSs _ _ _ (σc.set 4 (some v)) H4
    have w4 : Dw d il ns H H4 := w3.trans ⟨dk4, f4, t4⟩
    have hw4 := wset σc 4 (some v) (by simp) rfl
    have S4 := (S3.dw (H1 := H4) ⟨dk4, f4, t4⟩ w3.dk rfl).set 4 (r := .d (eS t)) im
    have S4' := (S3.dw (H1 := H4) ⟨dk4, f4, t4⟩ w3.dk rfl).set0 (v := v) 4
    have h44 : (σc.set 4 (some v))[4]? = some (some v) := List.getElem?_set_self (by rw [← hσc]; simp)
    generalize σc.set 4 (some v) = σ4 at hw4 S4 S4' h44
    obtain ⟨hnin, hsx, hfaces⟩ := hnew
    refine wss_one (ws_if (b := decide (l.length < 60)) S4 ((PuB.t (pub_and (put_cmp op_notN rv_notN (by rfl) (pu_var 4) pu_non) fun _ => pub_and1 (put_cmp op_lt rv_lt (by rfl) (pu_lenL M (pu_var 1)) pu_int))).to (by simp [isNon]; omega)) (fun hc2 H5 s5 => ?_) fun hc2 H5 s5 => wss_nil (rest H5 σ4 hw4 (S4'.mono s5) (w4.step s5) fun e => by subst e; simp at hc2))
    have hc2 : l.length < 60 := of_decide_eq_true hc2
    have S5 := S4.mono s5
    have hflen : (lf t).length ≤ 3 := by unfold lf; rw [List.length_reverse]; exact fc_len
    -- low
    refine wss_cons (ws_setN 5 sc_70.nd S5 ((pun_catL (ds := ((lf t).map (lkh l)).map .int) (es := (List.replicate (if t.length = 1 then 1 else 0) [PyData.int (-9)]).flatten) ((lcd1a (xs := lf t) (enc := eS) N70 (defScope (top 70)) 10 (fun f => .int (lkh l f)) (src_list (pun_call DF.df (hr.mono (by decide)) (pua_cons (pu_var 4) pua_nil) ⟨t, hsx, rfl, rfl⟩).pu) sc_70.nd (by omega)
      (fun f hf _ _ _ _ _ => pu_getT hu1 (pu_var 2) (pu_var 10) (lkT_lkh (hfaces f (by unfold lf at hf; simpa using hf))))).to (by rw [List.map_map]; rfl)).pun.pu (pun_rep (n := if t.length = 1 then 1 else 0) (pun_lst (ds := [.int (-9)]) (pua_cons (pu_neg pu_int) pua_nil)).pu ((pu_intB M (pu_cmp op_eq rv_eqI (by rfl) (pu_lenT M (pu_var 4)) pu_int)).to ?_) (by simp; split <;> omega) (by split <;> omega)).pu ?_).to (r' := ((lf t).map (lkh l) ++ (if t.length = 1 then [-9] else [])).map .int) ?_) fun la H6 n6 s6 l6 => ?_)
    · by_cases h1 : t.length = 1
      · simp [h1]
      · have : ¬ ((t.length : Int) = 1) := by omega
        simp [h1, this]
    · split <;> simp <;> omega
    · rw [List.map_append]
      split <;> simp
    have S6 := (S5.mono s6).set 5 (r := .l (((lf t).map (lkh l) ++ (if t.length = 1 then [-9] else [])).map .int)) ⟨la, rfl, l6⟩
    have hw6 := wset σ4 5 (some (.ref la)) (by simp) hw4
    have h64 : (σ4.set 5 (some (V.ref la)))[4]? = some (some v) := by rw [List.getElem?_set_ne (by decide)]; exact h44
    generalize σ4.set 5 (some (V.ref la)) = σ6 at S6 hw6 h64
    have w6 := (w4.step s5).step s6
    have hlne : (lf t).map (lkh l) ++ (if t.length = 1 then [-9] else []) ≠ [] := by
      intro e
      cases hsx with
      | one a => simp at e
      | two a b => simp [lf, fc] at e
      | three a b c => simp [lf, fc] at e
    obtain ⟨m, hm1, hm2⟩ := max_ex hlne
    have hmr : -1000 ≤ m ∧ m ≤ 1000 := by
      rcases List.mem_append.mp hm1 with y | y
      · obtain ⟨f, hf, e⟩ := List.mem_map.mp y
        rw [← e]
        exact VV.ht _ (lkh_mem (hfaces f (by unfold lf at hf; simpa using hf)))
      · split at y
        · have := List.mem_singleton.mp y
          omega
        · cases y
    refine wss_one (ws_retW ?_)
    refine we_tup ?_
    refine wa_cons (we_pu S6 (pu_str (i := "add")) fun v9 H9 s9 a9 => ?_)
    refine wa_cons (we_name 4 h64 ?_)
    refine wa_cons (we_pd (S6.mono s9) (g0 _ hw6) (w6.step s9).dk (pd_min2 M rfl (pd_pu (pu_int (i := 1000))) (pd_add rfl (pd_pu (pu_max (m := m) M rfl (pu_var 5) hm1 hm2)) (pd_draw DD.df (hr.mono (by decide)) rfl (pd_ix (xs := [1, 3, 12]) rfl ((pun_lst (ds := [.int 1, .int 3, .int 12]) (pua_cons pu_int (pua_cons pu_int (pua_cons pu_int pua_nil)))).pu.to rfl) (pd_drawP (i := 3) DD.df (hr.mono (by decide)) rfl pu_int (by decide) (by decide)) (fun i h => h)) (fun i hi => by simp only [List.mem_cons, List.not_mem_nil, or_false] at hi; omega)))) fun z H10 hz w10 => ?_)
    refine wa_nil ⟨by show 3 ≤ sizeLine; decide, fun p hp => ?_⟩
    cases a9
    obtain ⟨i1, j1, rfl, ⟨i2, j2, rfl, ⟨b, _, hb1, hb2⟩, rfl⟩, hz⟩ := hz
    have wE := ((w6.step s9).trans w10).step (same_new (o := .tup [.str "add", v, .int z]) hp)
    refine q' (.ref p) (.ad t z) _ (.tup upd_same (.cons (.str _) (.cons (((((im.mono (.of s5)).mono (.of s6)).mono (.of s9)).mono w10.tx).mono (.new hp)) (.cons (.int _) .nil)))) ⟨hnin, hc2, hsx, by omega, by omega, fun f hf => ⟨lkh l f, lkh_mem (hfaces f hf), ?_⟩, fun p hp hf => ?_⟩ wE
    · have h1 : lkh l f ≤ i2 := hm2 _ (List.mem_append.mpr (.inl (List.mem_map.mpr ⟨f, by unfold lf; simpa using hf, rfl⟩)))
      omega
    · obtain ⟨h', m', _⟩ := VV.fc _ hp t hf
      exact absurd (List.mem_map.mpr ⟨_, m', rfl⟩) hnin
  · -- none
    show WSs _ _ _ (σc.set 4 (some .non)) H4
    have w4 : Dw d il ns H H4 := w3.trans ⟨dk4, f4, t4⟩
    have hw4 := wset σc 4 (some .non) (by simp) rfl
    have S4 := (S3.dw (H1 := H4) ⟨dk4, f4, t4⟩ w3.dk rfl).set 4 (r := .d .none) .non
    have S4' := (S3.dw (H1 := H4) ⟨dk4, f4, t4⟩ w3.dk rfl).set0 (v := .non) 4
    generalize σc.set 4 (some .non) = σ4 at hw4 S4 S4'
    exact wss_one (ws_if (b := false) S4 ((PuB.t (pub_and (c := false) (d := false) ((put_cmp op_notN rv_notN (by rfl) (pu_var 4) pu_non).to rfl) fun h => nomatch h)).to (r' := false) rfl) (fun hc2 => nomatch hc2) fun _ H5 s5 => wss_nil (rest H5 σ4 hw4 (S4'.mono s5) (w4.step s5) hne))
end
end K47
/-! Q8: _law_edit -/
namespace K47
open PySem PySem.Spec PyProof.Rows L2
section
variable {P : Program} {w : World} {K : PySem.W.Frag} {mg : Str → Option Value} {base : Heap}
def spEdit : Sp := fun vs H Q _ => ∃ (d il q : Addr) (ns : List Int) (l : List Itm), vs = [V.ref d, .ref q] ∧ DK H d il ns ∧ Ls H q (l.map eTI) ∧ VS l ∧
  ∀ (T p : Addr) (v : V) (e : Fe) H', H' T = some (.tup [v, .ref p]) → Im H' v (eF e) → Ls H' p ((fin l e.sgl).map eTI) → Cans l e.sgl → e.sgl.length ≤ 5 → (p = q ∨ H p = none) → Dw d il ns H H' → Q (.ref T) H'
abbrev N71 : List Str := ["_law_deck_here", "_law_items", "_law_edit_here", "_law_edits", "_law_k"]
theorem sc_71 : FnScope N71 ["_law_deck_here", "_law_items"] (defScope (top 71)) := ⟨rfl, rfl, rfl, by decide +kernel, rfl, by decide +kernel, by decide +kernel⟩
theorem ok_ledit (M : Mg mg) (S : Stands K mg "_law_edit" 71) (DD : Df0 P w K mg base "_law_draw" 1 spDraw) (DG : Df0 P w K mg base "_law_good_edit" 3 spGood) (DS : Df0 P w K mg base "_law_single" 3 (spN rLS)) : Df0 P w K mg base "_law_edit" 4 spEdit := by
  refine mk_def S sc_71 (fun vs H Q E h => by obtain ⟨_, _, _, _, _, rfl, _⟩ := h; rfl) (fun _ _ _ _ _ _ us hl => match us, hl with | [_, _], _ => rfl) fun f cdv A outer s H vs Q E hr h => ?_
  obtain ⟨d, il, q, ns, l, rfl, hDK, hl, VV, q'⟩ := h
  have hlen := VV.len
  have hv : L2.start N71 [V.ref d, .ref q] = [some (.ref d), some (.ref q), none, none, none] := rfl
  rw [hv]
  have S0 : Sl H [some (V.ref d), some (.ref q), none, none, none] [none, some (.l (l.map eTI)), none, none, none] := ⟨rfl, fun i r z => by
    match i with
    | 0 => cases z
    | 1 => cases z; exact ⟨_, rfl, q, rfl, hl⟩
    | 2 => cases z
    | 3 => cases z
    | 4 => cases z
    | i + 5 => cases z⟩
  refine wss_cons (ws_ifW (wt_cmp op_gt (by rfl) (we_pd (k := 0) (d := d) (il := il) (ns := ns) S0 rfl hDK (pd_drawP (i := 5) DD.df (hr.mono (by decide)) rfl pu_int (by decide) (by decide)) fun v H1 hv1 w1 => we_pu (S0.dw w1 hDK rfl) (pu_int (i := 0)) fun z H2 s2 a2 => ?_)))
  cases a2
  have S2 := (S0.dw w1 hDK rfl).mono s2
  have w2 := w1.step s2
  have l2 := (hl.dw hDK w1).mono s2
  refine ⟨v, 0, rfl, rfl, _, rfl, ?_⟩
  by_cases hc : (0 : Int) < v
  · rw [decide_eq_true hc, if_pos rfl]
    refine wss_cons (ws_setW 2 sc_71.nd (we_call DG.df (hr.mono (by decide)) (wa_cons (we_name 0 rfl (wa_cons (we_name 1 rfl (wa_nil fun E' => ⟨d, il, q, ns, l, rfl, w2.dk, l2, VV, fun u e H3 im hcan w3 => ?_⟩)))))))
    show WSs _ _ _ [some (V.ref d), some (.ref q), some u, none, none] H3
    have S3 : Sl H3 [some (V.ref d), some (.ref q), some u, none, none] [none, some (.l (l.map eTI)), some (.d (eE e)), none, none] := (S2.dw w3 w2.dk rfl).set 2 (r := .d (eE e)) im
    have w3' := w2.trans w3
    refine wss_one (ws_retW ?_)
    refine we_tup ?_
    refine wa_cons (we_name 2 rfl ?_)
    refine wa_cons (we_puN S3 (pun_call DS.df (hr.mono (by decide)) (pua_cons (pu_var 1) (pua_cons (pu_var 2) pua_nil)) ⟨l, e, VV, hcan, rfl, rfl⟩) fun p H4 n4 s4 l4 => ?_)
    refine wa_nil ⟨by show 2 ≤ sizeLine; decide, fun T hT => ?_⟩
    exact q' T p u (.one e) _ upd_same ((im.mono (.of s4)).mono (.new hT)) (l4.mono (same_new hT)) ⟨hcan, True.intro⟩ (show 1 ≤ 5 by decide) (.inr (w3'.free n4)) ((w3'.step s4).step (same_new hT))
  · rw [decide_eq_false hc, if_neg (by simp)]
    refine wss_nil ?_
    -- edits = []
    refine wss_cons (ws_setN 3 sc_71.nd S2 (pun_lst (ds := []) pua_nil) fun ea H3 n3 s3 l3 => ?_)
    show WSs _ _ _ [some (V.ref d), some (.ref q), none, some (.ref ea), none] H3
    have w3 := w2.step s3
    have S3 : Sl H3 [some (V.ref d), some (.ref q), none, some (.ref ea), none] [none, none, none, none, none] := ⟨rfl, fun i r z => by
      match i with
      | 0 => cases z
      | 1 => cases z
      | 2 => cases z
      | 3 => cases z
      | 4 => cases z
      | i + 5 => cases z⟩
    have hea : H ea = none := w2.free n3
    have nqe : q ≠ ea := fun e => by subst e; exact ls_not_none l2 n3
    refine wss_cons (ws_rngW 4 M sc_71.nd (we_pd (k := 0) (d := d) (il := il) (ns := ns) S3 rfl w3.dk (pd_drawP (i := 6) DD.df (hr.mono (by decide)) rfl pu_int (by decide) (by decide)) fun n H4 hn w4 => ?_))
    obtain ⟨hn0, hn6⟩ := hn
    refine ⟨n.toNat, by rw [Int.toNat_of_nonneg hn0], by omega, fun k σ' H' => σ'[0]? = some (some (V.ref d)) ∧ σ'[3]? = some (some (V.ref ea)) ∧ σ'.length = 5 ∧ Dw d il ns H H' ∧ ∃ (p : Addr) (es : List Ed), σ'[1]? = some (some (.ref p)) ∧ Ls H' p ((fin l es).map eTI) ∧ Ls H' ea (es.map eE) ∧ Cans l es ∧ es.length = k ∧ (p = q ∨ H p = none) ∧ p ≠ ea, ⟨rfl, rfl, rfl, w3.trans w4, q, [], rfl, (l2.mono s3).dw w3.dk w4, l3.dw w3.dk w4, True.intro, rfl, .inl rfl, nqe⟩, fun k σ' H' hk hP => ?_, fun σ' H' hP => ?_⟩
    · obtain ⟨h0, h3, hl5, wH, p, es, h1, lp, le, hcs, hel, hpq, npe⟩ := hP
      have V2 := VV.fin hcs
      have g0 : (σ'.set 4 (some (V.int (k : Nat))))[0]? = some (some (V.ref d)) := by rw [List.getElem?_set_ne (by decide)]; exact h0
      have g1 : (σ'.set 4 (some (V.int (k : Nat))))[1]? = some (some (V.ref p)) := by rw [List.getElem?_set_ne (by decide)]; exact h1
      have g3 : (σ'.set 4 (some (V.int (k : Nat))))[3]? = some (some (V.ref ea)) := by rw [List.getElem?_set_ne (by decide)]; exact h3
      have g4 : (σ'.set 4 (some (V.int (k : Nat))))[4]? = some (some (V.int (k : Nat))) := List.getElem?_set_self (by omega)
      have gl : (σ'.set 4 (some (V.int (k : Nat)))).length = 5 := by rw [List.length_set]; exact hl5
      generalize σ'.set 4 (some (V.int (k : Nat))) = σ4 at g0 g1 g3 g4 gl
      obtain ⟨xs0, hx0, _⟩ := id le
      refine wss_cons (we_append (we_name 3 g3 ⟨ea, rfl, ⟨xs0, hx0⟩, we_call DG.df (hr.mono (by decide)) (wa_cons (we_name 0 g0 (wa_cons (we_name 1 g1 (wa_nil fun E' => ⟨d, il, p, ns, fin l es, rfl, wH.dk, lp, V2, fun u e H5 im hcan w5 => ?_⟩)))))⟩))
      have le5 := le.dw wH.dk w5
      have lp5 := lp.dw wH.dk w5
      have wH5 := wH.trans w5
      obtain ⟨xs, hx1, hx2⟩ := id le5
      refine ⟨xs, hx1, by rw [hx2.length, List.length_map, hel]; exact Nat.lt_of_lt_of_le (show k < 10 by omega) (by decide), ?_⟩
      have t6 : Tx H5 (upd H5 ea (.lst (xs ++ [u]))) := .mut hx1 fun _ z => nomatch z
      have x6 : SameX ea H5 (upd H5 ea (.lst (xs ++ [u]))) := .upd
      have w6 : Dw d il ns H (upd H5 ea (.lst (xs ++ [u]))) := wH5.upd hDK hea hx1
      have le6 : Ls (upd H5 ea (.lst (xs ++ [u]))) ea ((es ++ [e]).map eE) := ⟨xs ++ [u], upd_same, by rw [List.map_append]; exact (hx2.mono t6).append (.cons (im.mono t6) .nil)⟩
      have lp6 := lp5.sx le5 npe x6
      generalize upd H5 ea (.lst (xs ++ [u])) = H6 at w6 le6 lp6
      have S6 : Sl H6 σ4 [none, some (.l ((fin l es).map eTI)), none, some (.l ((es ++ [e]).map eE)), some (.d (.int (k : Nat)))] := ⟨gl.symm, fun i r z => by
        match i with
        | 0 => cases z
        | 1 => cases z; exact ⟨_, g1, p, rfl, lp6⟩
        | 2 => cases z
        | 3 => cases z; exact ⟨_, g3, ea, rfl, le6⟩
        | 4 => cases z; exact ⟨_, g4, .int _⟩
        | i + 5 => cases z⟩
      refine wss_one (ws_setN 1 sc_71.nd S6 (pun_call DS.df (hr.mono (by decide)) (pua_cons (pu_var 1) (pua_cons (pu_ixL (pu_var 3) (pu_var 4) (atI_nat' (n := k) (by rw [List.getElem?_map, ← hel]; simp) rfl)) pua_nil)) ⟨fin l es, e, V2, hcan, rfl, rfl⟩) fun p7 H7 n7 s7 l7 => ?_)
      refine ⟨by rw [List.getElem?_set_ne (by decide)]; exact g0, by rw [List.getElem?_set_ne (by decide)]; exact g3, by rw [List.length_set]; exact gl, w6.step s7, p7, es ++ [e], List.getElem?_set_self (by omega), ?_, le6.mono s7, cans_append.mpr ⟨hcs, hcan, True.intro⟩, by simp; omega, .inr (w6.free n7), fun z => by subst z; exact ls_not_none le6 n7⟩
      rw [fin_append]
      exact l7
    · obtain ⟨h0, h3, hl5, wH, p, es, h1, lp, le, hcs, hel, hpq, npe⟩ := hP
      have S6 : Sl H' σ' [none, none, none, some (.l (es.map eE)), none] := ⟨hl5.symm, fun i r z => by
        match i with
        | 0 => cases z
        | 1 => cases z
        | 2 => cases z
        | 3 => cases z; exact ⟨_, h3, ea, rfl, le⟩
        | 4 => cases z
        | i + 5 => cases z⟩
      refine wss_one (ws_retW ?_)
      refine we_tup ?_
      refine wa_cons (we_pu S6 ((pu_tup (ds := [.str "all", .tuple (es.map eE)]) (pua_cons pu_str (pua_cons (pu_tuple M (pu_var 3)) pua_nil)))) fun u H5 s5 a5 => ?_)
      refine wa_cons (we_name 1 h1 ?_)
      refine wa_nil ⟨by show 2 ≤ sizeLine; decide, fun T hT => ?_⟩
      exact q' T p u (.all es) _ upd_same (Im.mono (.new hT) a5) ((lp.mono s5).mono (same_new hT)) hcs (by show es.length ≤ 5; omega) hpq ((wH.step s5).step (same_new hT))
end
end K47
/-! R1: defs whose callers stand under no repr (so that they may ask repr); repr -/
namespace K47
open PySem PySem.Spec PyProof.Rows L2
/-! ### small data -/
/-- data whose text is short -/
structure Sd (n b : Nat) (d : PyData) : Prop where
  sh : d.showable = true
  nd : d.hasDict = false
  lv : d.leavesShort 13 = true
  dp : d.depth ≤ n
  bk : d.bulk ≤ b
theorem sd_int {n b : Nat} {i : Int} (h1 : -99999 ≤ i) (h2 : i ≤ 99999) : Sd n b (.int i) where
  sh := by
    simp only [PyData.showable, decide_eq_true_eq]
    have h : i.natAbs < 2 ^ 17 := by omega
    by_cases h0 : i.natAbs = 0
    · rw [h0]; decide
    · exact Nat.lt_of_lt_of_le ((Nat.log2_lt h0).mpr h) (by decide)
  nd := by simp [PyData.hasDict]
  lv := by simp only [PyData.leavesShort, decide_eq_true_eq]; exact PyData.shown_int_le2 (by omega) (by omega)
  dp := by simp [PyData.depth]
  bk := by simp [PyData.bulk]
theorem sd_none {n b : Nat} : Sd n b .none where
  sh := by simp [PyData.showable]
  nd := by simp [PyData.hasDict]
  lv := by simp [PyData.leavesShort]
  dp := by simp [PyData.depth]
  bk := by simp [PyData.bulk]
theorem sd_all {n b : Nat} : ∀ {ds : List PyData}, (∀ d ∈ ds, Sd n b d) → PyData.showableAll ds = true ∧ PyData.hasDictAll ds = false ∧ PyData.leavesShortAll 13 ds = true ∧ PyData.depthAll ds ≤ n ∧ PyData.bulkAll ds ≤ (b + 1) * ds.length
  | [], _ => by simp [PyData.showableAll, PyData.hasDictAll, PyData.leavesShortAll, PyData.depthAll, PyData.bulkAll]
  | d :: r, h => by
    obtain ⟨g1, g2, g3, g4, g5⟩ := sd_all (ds := r) fun x hx => h x (by simp [hx])
    have z := h d (by simp)
    refine ⟨by simp [PyData.showableAll, z.sh, g1], by simp [PyData.hasDictAll, z.nd, g2], by simp [PyData.leavesShortAll, z.lv, g3], ?_, ?_⟩
    · simp only [PyData.depthAll]; have := z.dp; omega
    · simp only [PyData.bulkAll, List.length_cons]
      have e : (b + 1) * (r.length + 1) = (b + 1) * r.length + (b + 1) := Nat.mul_succ _ _
      have := z.bk
      omega
theorem sd_tup {n b c : Nat} {ds : List PyData} (h : ∀ d ∈ ds, Sd n b d) (hc : (b + 1) * ds.length ≤ c) : Sd (n + 1) c (.tuple ds) := by
  obtain ⟨g1, g2, g3, g4, g5⟩ := sd_all h
  exact ⟨by simpa [PyData.showable] using g1, by simpa [PyData.hasDict] using g2, by simpa [PyData.leavesShort] using g3, by simp only [PyData.depth]; omega, by simp only [PyData.bulk]; omega⟩
theorem sd_lst {n b c : Nat} {ds : List PyData} (h : ∀ d ∈ ds, Sd n b d) (hc : (b + 1) * ds.length ≤ c) : Sd (n + 1) c (.list ds) := by
  obtain ⟨g1, g2, g3, g4, g5⟩ := sd_all h
  exact ⟨by simpa [PyData.showable] using g1, by simpa [PyData.hasDict] using g2, by simpa [PyData.leavesShort] using g3, by simp only [PyData.depth]; omega, by simp only [PyData.bulk]; omega⟩
theorem Sd.mono {n m b c : Nat} {d : PyData} (h : Sd n b d) (h1 : n ≤ m) (h2 : b ≤ c) : Sd m c d := ⟨h.sh, h.nd, h.lv, Nat.le_trans h.dp h1, Nat.le_trans h.bk h2⟩
/-! ### repr -/
def rRepr (K : PySem.W.Frag) : List V → Hp → VK → Prop := fun vs H Q => ∃ (a : Addr) (d : PyData), vs = [V.ref a] ∧ Dp K H (.ref a) d ∧ Sd 10 1000000 d ∧ Q (.str d.shown) H
theorem cr_repr {X : Cx} (hu : X.A.units + 20 < cLine) (hg : X.A.guards = some []) : CallR X (.builtin "repr") (rRepr X.K) := by
  intro pins s σ H vs us Q I r h
  obtain ⟨a, d, rfl, dp, sd, q⟩ := h
  obtain ⟨as, hr⟩ := Dp.reads I _ _ _ dp (rfl : RelV (.ref a) (.ref a))
  rw [Vals.ref1 r]
  refine repr_of_reads' hr sd.sh (PyData.noDict_hsm sd.nd) hg (by have := sd.dp; omega) (fun b o e => e) (fun h' u tk hk => ?_) (PyData.shown_fits_bulk (by decide) (by decide) sd.lv (Nat.le_trans sd.bk (by decide)))
  exact ⟨.str d.shown, H, I.kept (t' := tk) hk, ⟨u, rfl⟩, q⟩
section
variable {X : Cx} {σ : L2.St} {H : Hp} {e : Expr} {p pos : Pos} {Q : VK}
theorem we_repr (M : Mg X.mg) (hu : X.A.units + 20 < cLine) (hgd : X.A.guards = some []) (h : WE X e σ H fun v H1 => ∃ (a : Addr) (d : PyData), v = .ref a ∧ Dp X.K H1 (.ref a) d ∧ Sd 10 1000000 d ∧ Q (.str d.shown) H1) (hg : Gl X "repr" := by rfl) (he : starEach [e] X.env = [(false, eval e X.env)] := by rfl) : WE X (.Call (.Name "repr" p) [e] [] pos) σ H Q :=
  we_cB (cr_repr hu hgd) M.repr (by decide +kernel) (wa_cons (h.mono fun v H1 ⟨a, d, ev, h1, h2, h3⟩ => wa_nil ⟨a, d, by rw [ev], h1, h2, h3⟩) he) hg (he := he)
end
/-! ### such defs -/
/-- what such a def does, from any caller that stands under no repr -/
structure FnG (P : Program) (w : World) (K : PySem.W.Frag) (mg : Str → Option Value) (base : Heap) (k : Nat) (f : Addr) (fd : FuncData) (ps : List Str) (sp : Sp) : Prop where
  len : ∀ vs H Q E, sp vs H Q E → vs.length = ps.length
  go : ∀ (A : Around) (outer : List Env) (s : Shared) (H : Hp) (args : Args) (us : List Value) (vs : List V) (Q : VK) (E : XK), A.guards = some [] → Room k A → Env0 P w K mg base A outer s H →
    BindsTo s fd args (ps.zip us) → Vals vs us → sp vs H Q E → codeAny (model P w) A (.call (.ref f) args) (CR CX0 outer P w H s Q E) s
theorem fnG_of {P : Program} {w : World} {K : PySem.W.Frag} {mg : Str → Option Value} {base : Heap} {k : Nat} {f : Addr} {nm ql : Str} {pa : Arguments} {bd : List Stmt} {sco : Scope} {v1 v2 v3 v4 cv v5 oc : Value} {an od : Option Addr} {osl : Array (Option Value)} {N ps : List Str} {sp : Sp}
    (look : K.lookup f = some ⟨oc, od, .func (PySem.W.fnOf nm ql pa bd sco v1 v2 v3 v4 an cv v5), osl⟩) (code : PySem.W.codeIn K cv ql = true) (FS : FnScope N ps sco) (len : ∀ vs H Q E, sp vs H Q E → vs.length = ps.length)
    (body : ∀ (A : Around) (outer : List Env) (s : Shared) (H : Hp) (vs : List V) (Q : VK) (E : XK), A.guards = some [] → Room k (A.deeper (envOfC ql sco s.heap.objs.size f cv)) → sp vs H Q E →
      WSs (cxOf CX0 P w K mg base N ql sco f cv A outer s H E) bd { nx := fun _ H' => Q .non H', rt := Q } (L2.start N vs) H) : FnG P w K mg base (k + 1) f (PySem.W.fnOf nm ql pa bd sco v1 v2 v3 v4 an cv v5) ps sp where
  len := len
  go := by
    intro A outer s H args us vs Q E guards room env binds vals want
    have kin : K.In s.heap := env.mod.kin.keeps fun b o z => (env.bs b o z).1
    have nol : s.heap.NoLimit := env.mod.nolimit.keeps fun b o z => (env.bs b o z).1
    have kinds : ∀ y ∈ ps.zip us, sco.names.lookup y.1 = some .local ∨ (sco.names.lookup y.1 = some .cell ∧ ((cellsFrom (s.heap.objs.size + 1) sco.names []).lookup y.1).isSome = true) := by
      rintro ⟨n, v⟩ hy
      exact (FS.par n (List.of_mem_zip hy).1).imp id fun z => ⟨z, PySem.W.cellsFrom_some _ _ _ (.inl z)⟩
    refine codeAny_call_function room.depth (kin _ _ look) rfl FS.co FS.gen rfl (PySem.W.codeRec_of kin code) (binds _ _ _ _ (wpAny_newFunctionEnv_cells FS.kind kinds fun e1 he1 s1 hx => ?_))
    subst he1
    refine ⟨nol.keeps hx.toInCall.keep, codeAny_func ?_⟩
    have inv : Inv (cxOf CX0 P w K mg base N ql sco f cv A outer s H E) [] (L2.start N vs) H s1 := inv_start FS room.hd env (len _ _ _ _ want) vals hx
    refine wpAny_mono (body A outer s H vs Q E guards (room.deeper _) want [] s1 inv) (fun fl s' hs => ?_) fun _ _ z => z
    cases fl with
    | ret u =>
      obtain ⟨v, _, H', J, rv, q⟩ := hs
      exact ⟨v, H', J.os, J.bare, J.base, J.hok, rv, q⟩
    | next =>
      obtain ⟨_, H', J, q⟩ := hs
      exact ⟨V.non, H', J.os, J.bare, J.base, J.hok, rfl, q⟩
    | brk =>
      obtain ⟨_, _, _, q⟩ := hs
      exact q.elim
    | cont =>
      obtain ⟨_, _, _, q⟩ := hs
      exact q.elim
/-- a def's promise, as its callers need it -/
structure DfG (P : Program) (w : World) (K : PySem.W.Frag) (mg : Str → Option Value) (base : Heap) (x : Str) (k : Nat) (sp : Sp) : Prop where
  ex : ∃ (f : Addr) (fd : FuncData) (ps : List Str), FnG P w K mg base k f fd ps sp ∧ mg x = some (.ref f) ∧ PySem.W.keepIn K (.ref f) = true ∧ Binds K fd ps []
section
variable {P : Program} {w : World} {K : PySem.W.Frag} {mg : Str → Option Value} {base : Heap}
theorem mk_fnG {x : Str} {i : Nat} {N ps : List Str} {k : Nat} {sp : Sp} {f : Addr} {fd : FuncData} (F : FnT K x x (top i) f fd) (sc : FnScope N ps (defScope (top i))) (len : ∀ vs H Q E, sp vs H Q E → vs.length = ps.length)
    (hbody : ∀ (cdv : Value) (A : Around) (outer : List Env) (s : Shared) (H : Hp) (vs : List V) (Q : VK) (E : XK), (A.deeper (envOfC x (defScope (top i)) s.heap.objs.size f cdv)).guards = some [] → Room k (A.deeper (envOfC x (defScope (top i)) s.heap.objs.size f cdv)) → sp vs H Q E →
      WSs (cxOf CX0 P w K mg base N x (defScope (top i)) f cdv A outer s H E).nox (defBody (top i)) { nx := fun _ H' => Q .non H', rt := Q } (L2.start N vs) H) : FnG P w K mg base (k + 1) f fd ps sp := by
  obtain ⟨oc, od, dV, kV, doc, pm, an, cdv, ct, osl, rfl, lk, hcd, _, _⟩ := F.ex
  exact fnG_of lk hcd sc len fun A outer s H vs Q E hg hr h => wss_of (PSs.nox pss_wss) (hbody cdv A outer s H vs Q E hg hr h)
theorem mk_defG {x : Str} {i : Nat} {N ps : List Str} {k : Nat} {sp : Sp} (S : Stands K mg x i) (sc : FnScope N ps (defScope (top i))) (len : ∀ vs H Q E, sp vs H Q E → vs.length = ps.length)
    (hbind : ∀ (kV doc pm : Value) (an : Option Addr) (cdv ct : Value) (us : List Value), us.length = ps.length → bindArgs (PySem.W.fnOf x x (defArgs (top i)) (defBody (top i)) (defScope (top i)) .none kV doc pm an cdv ct) ⟨us, []⟩ = pure (ps.zip us))
    (hbody : ∀ (f : Addr) (cdv : Value) (A : Around) (outer : List Env) (s : Shared) (H : Hp) (vs : List V) (Q : VK) (E : XK), (A.deeper (envOfC x (defScope (top i)) s.heap.objs.size f cdv)).guards = some [] → Room k (A.deeper (envOfC x (defScope (top i)) s.heap.objs.size f cdv)) → sp vs H Q E →
      WSs (cxOf CX0 P w K mg base N x (defScope (top i)) f cdv A outer s H E).nox (defBody (top i)) { nx := fun _ H' => Q .non H', rt := Q } (L2.start N vs) H) : DfG P w K mg base x (k + 1) sp := by
  obtain ⟨f, fd, F, hm⟩ := S
  have kp := F.kp
  obtain ⟨oc, od, dV, kV, doc, pm, an, cdv, ct, osl, rfl, lk, hcd, hd, _⟩ := F.ex
  obtain rfl : dV = .none := by
    rcases hd with ⟨_, e⟩ | ⟨e, _⟩
    · exact e
    · exact absurd rfl e
  exact ⟨f, _, ps, fnG_of lk hcd sc len fun A outer s H vs Q E hg hr h => wss_of (PSs.nox pss_wss) (hbody f cdv A outer s H vs Q E hg hr h), hm, kp, .all (hbind kV doc pm an cdv ct)⟩
end
section
variable {X : Cx} {x : Str} {k : Nat} {sp : Sp} {e : Expr} {es : List Expr} {p pos : Pos} {σ : L2.St} {H : Hp} {Q : VK}
theorem we_callG (D : DfG X.prog X.w X.K X.mg X.base x k sp) (hr : Room k X.A) (hgd : X.A.guards = some []) (h : WA X (e :: es) σ H fun vs H1 => ∀ E, sp vs H1 Q E) (hg : Gl X x := by rfl)
    (hdb : (x == ("__debug__" : Str)) = false := by decide) (he : starEach (e :: es) X.env = (false, eval e X.env) :: starEach es X.env := by rfl) (hpl : (backTo pos (starEach es X.env)).any (·.1) = false := by rfl) : WE X (.Call (.Name x p) (e :: es) [] pos) σ H Q := by
  obtain ⟨f, fd, ps, F, hm, hk, hb⟩ := D.ex
  intro pins s I
  refine wpAny_Call_Name_kw (ld_glob I hg hm ?_ hdb)
  refine PySem.W.callWith_K (h₀ := X.base) I.ok.mod.kin hk (thn (h pos pins s I) fun us s1 ⟨vs, H1, I1, r, q⟩ => ⟨I1.kIn, ?_⟩) he hpl
  have hl : us.length = ps.length := by rw [← r.length]; exact F.len _ _ _ _ (q fun _ _ _ => True)
  have b := hb s1 us I1.kIn (by simpa using hl)
  rw [List.append_nil] at b
  refine wpAny_call (codeAny_mono (F.go X.A X.stack s1 H1 ⟨us, []⟩ us vs Q (fun _ _ _ => True) hgd hr I1.env0 b r (q _)) fun rr s' hq => ?_)
  cases rr with
  | error e => exact hq.elim
  | ok fl =>
    cases fl with
    | ret u => exact I1.after hq
    | next => exact hq.elim
    | brk => exact hq.elim
    | cont => exact hq.elim
end
end K47
/-! R2: the law's data are small; _law_same -/
namespace K47
open PySem PySem.Spec PyProof.Rows L2
theorem sd_oD {n b : Nat} {o : Option Int} (h : ∀ i, o = some i → -99999 ≤ i ∧ i ≤ 99999) : Sd n b (oD o) := by
  cases o with
  | none => exact sd_none
  | some i => obtain ⟨h1, h2⟩ := h i rfl; exact sd_int h1 h2
theorem sd_S {s : Sim} (h : Sx s) : Sd 1 10 (eS s) := by
  have key : ∀ x ∈ s, -99999 ≤ x ∧ x ≤ 99999 := by
    cases h with
    | one a _ _ => intro x hx; simp at hx; omega
    | two a b _ _ _ => intro x hx; simp at hx; omega
    | three a b c _ _ _ _ => intro x hx; simp at hx; omega
  have hl := h.len
  refine sd_tup (n := 0) (b := 0) (fun d hd => ?_) (by simp; omega)
  obtain ⟨x, hx, rfl⟩ := List.mem_map.mp hd
  obtain ⟨h1, h2⟩ := key x hx
  exact sd_int h1 h2
theorem sd_TI {l : List Itm} (VV : VS l) {p : Itm} (hp : p ∈ l) : Sd 2 30 (eTI p) := by
  obtain ⟨h1, h2⟩ := VV.ht p hp
  refine sd_tup (n := 1) (b := 10) (fun d hd => ?_) (by simp)
  simp only [List.mem_cons, List.not_mem_nil, or_false] at hd
  rcases hd with rfl | rfl
  · exact sd_S (VV.sx p hp)
  · exact sd_int (by omega) (by omega)
theorem sd_items {l : List Itm} (VV : VS l) : Sd 3 3000 (.list (l.map eTI)) := by
  have := VV.len
  refine sd_lst (n := 2) (b := 30) (fun d hd => ?_) (by rw [List.length_map]; omega)
  obtain ⟨p, hp, rfl⟩ := List.mem_map.mp hd
  exact sd_TI VV hp
theorem sd_pairs {bs : List (List Int)} {fl : List (Nat × Nat)} {n : Nat} (R : RP bs fl n) (hl : bs.length = n) (hn : n ≤ 60) : Sd 3 3000 (.list ((pairsOf bs fl).map eP)) := by
  have hp := pairs_ok R hl
  have hpl : (pairsOf bs fl).length ≤ 60 := by
    unfold pairsOf
    rw [List.length_map]
    exact Nat.le_trans (births_len bs) (by omega)
  refine sd_lst (n := 2) (b := 30) (fun d hd => ?_) (by rw [List.length_map]; omega)
  obtain ⟨p, hm, rfl⟩ := List.mem_map.mp hd
  obtain ⟨h1, h2⟩ := hp p hm
  refine sd_tup (n := 1) (b := 10) (fun d hd => ?_) (by simp)
  simp only [List.mem_cons, List.not_mem_nil, or_false] at hd
  rcases hd with rfl | rfl
  · exact sd_int (by omega) (by omega)
  · refine sd_oD fun i hi => ?_
    unfold oI at hi
    cases e : p.2 with
    | none => rw [e] at hi; cases hi
    | some d =>
      rw [e] at hi
      cases hi
      have := h2 d e
      show -99999 ≤ ((d : Nat) : Int) ∧ ((d : Nat) : Int) ≤ 99999
      omega
theorem itm_mem {l : List Itm} {i : Nat} (h : i < l.length) : itm l i ∈ l := by
  unfold itm
  rw [List.getD_eq_getElem?_getD, List.getElem?_eq_getElem h]
  exact List.getElem_mem h
theorem sd_bars {l : List Itm} {bs : List (List Int)} {fl : List (Nat × Nat)} (VV : VS l) (R : RP bs fl l.length) (hl : bs.length = l.length) : Sd 3 3000 (.list (((barsOf l (pairsOf bs fl)).mergeSort leB).map eB)) := by
  have hn := VV.len
  have hp := pairs_ok R hl
  have hpl : (pairsOf bs fl).length ≤ 60 := by
    unfold pairsOf
    rw [List.length_map]
    exact Nat.le_trans (births_len bs) (by omega)
  have hbl : (barsOf l (pairsOf bs fl)).length ≤ 60 := by
    unfold barsOf
    rw [List.length_map]
    exact Nat.le_trans (List.length_filter_le _ _) hpl
  refine sd_lst (n := 2) (b := 40) (fun d hd => ?_) (by rw [List.length_map, List.length_mergeSort]; omega)
  obtain ⟨b, hm, rfl⟩ := List.mem_map.mp hd
  have hm : b ∈ barsOf l (pairsOf bs fl) := (List.mergeSort_perm _ _).mem_iff.mp hm
  unfold barsOf at hm
  obtain ⟨p, hpm, rfl⟩ := List.mem_map.mp hm
  obtain ⟨h1, h2⟩ := hp p (List.mem_filter.mp hpm).1
  have hi := itm_mem h1
  have g1 := (VV.sx _ hi).len
  have g2 := VV.ht _ hi
  refine sd_tup (n := 1) (b := 10) (fun d hd => ?_) (by simp)
  simp only [List.mem_cons, List.not_mem_nil, or_false] at hd
  rcases hd with rfl | rfl | rfl
  · show Sd 1 10 (.int (((itm l p.1).1.length : Int) - 1))
    exact sd_int (by omega) (by omega)
  · show Sd 1 10 (.int (itm l p.1).2)
    exact sd_int (by omega) (by omega)
  · show Sd 1 10 (oD (endOf l p))
    refine sd_oD fun i hi => ?_
    unfold endOf at hi
    cases e : p.2 with
    | none => rw [e] at hi; cases hi
    | some d =>
      rw [e] at hi
      cases hi
      have := VV.ht _ (itm_mem (h2 d e))
      show -99999 ≤ (itm l d).2 ∧ (itm l d).2 ≤ 99999
      omega
theorem sd_due {a b c : PyData} (h1 : Sd 3 3000 a) (h2 : Sd 3 3000 b) (h3 : Sd 3 3000 c) : Sd 10 1000000 (.list [a, b, c]) := by
  refine (sd_lst (n := 3) (b := 3000) (c := 20000) (fun d hd => ?_) (by simp)).mono (by decide) (by decide)
  simp only [List.mem_cons, List.not_mem_nil, or_false] at hd
  rcases hd with rfl | rfl | rfl <;> assumption
section
variable {X : Cx} {σ : L2.St} {H : Hp} {a b c e : Expr} {pos p : Pos} {Q : VK} {QT : Bool → Hp → Prop}
theorem wt_or (h : WT X a σ H fun k H1 => if k = true then QT true H1 else WT X b σ H1 QT) : WT X (.BoolOp .Or [a, b] pos) σ H QT := fun pins s I =>
  (wb_of (pw_or pt_wt (pw_or1 pt_wt)) (h.mono fun k H' z => by
    cases k with
    | true => exact z
    | false => exact z)) _ pins s I
theorem wt_not (h : WT X e σ H fun b H' => QT (!b) H') : WT X (.UnaryOp .Not e pos) σ H QT := wt_of (pt_not pt_wt) h
theorem wt_val (h : WE X e σ H fun v H' => ∃ b, v = .bl b ∧ QT b H') (he : ∀ whole, isTrue e X.env whole = (do let v ← whole; standAt e.pos; holding [v] (truthy v)) := by intro _; rfl) : WT X e σ H QT := wt_of (pt_val pe_we he) h
theorem we_cmp {op : CmpOp} {r : R2} (ho : OpR X (compareOp op) r) (hm : behindInMarks op b = false) (h : WE X a σ H fun x H1 => WE X b σ H1 fun y H2 => r x y H2 Q) : WE X (.Compare a [op] [b] pos) σ H Q := we_of (pe_cmpR ho pe_we pe_we hm) h
end
section
variable {P : Program} {w : World} {K : PySem.W.Frag} {mg : Str → Option Value} {base : Heap}
def spSame (K : PySem.W.Frag) : Sp := fun vs H Q _ => ∃ (a b : Addr) (d : PyData), vs = [V.ref a, .ref b] ∧ Dp K H (.ref a) d ∧ Dp K H (.ref b) d ∧ Sd 10 1000000 d ∧ Q (.bl true) H
theorem sc_72 : FnScope ["_law_value", "_law_due"] ["_law_value", "_law_due"] (defScope (top 72)) := ⟨rfl, rfl, rfl, by decide +kernel, rfl, by decide +kernel, by decide +kernel⟩
theorem ok_lsame (M : Mg mg) (S : Stands K mg "_law_same" 72) : DfG P w K mg base "_law_same" 1 (spSame K) := by
  refine mk_defG S sc_72 (fun vs H Q E h => by obtain ⟨_, _, _, rfl, _⟩ := h; rfl) (fun _ _ _ _ _ _ us hl => match us, hl with | [_, _], _ => rfl) fun f cdv A outer s H vs Q E hgd hr h => ?_
  obtain ⟨a, b, d, rfl, h1, h2, sd, q⟩ := h
  have hu : (A.deeper (envOfC "_law_same" (defScope (top 72)) s.heap.objs.size f cdv)).units + 20 < cLine := by have := hr.un; omega
  have hv : L2.start ["_law_value", "_law_due"] [V.ref a, .ref b] = [some (.ref a), some (.ref b)] := rfl
  rw [hv]
  refine wss_one (ws_retW (we_cmp op_eq (by rfl) (we_repr M hu hgd (we_name 0 rfl ⟨a, d, rfl, h1, sd, we_repr M hu hgd (we_name 1 rfl ⟨b, d, rfl, h2, sd, ⟨rfl, ?_⟩⟩)⟩))))
  have e : decide (V.str d.shown = V.str d.shown) = true := by simp
  rw [e]; exact q
end
end K47
/-! R3: _law_is_kept -/
namespace K47
open PySem PySem.Spec PyProof.Rows L2
section
variable {X : Cx} {σ : L2.St} {H : Hp} {e : Expr} {pos p2 : Pos} {Q : VK}
/-- e[:n], e any list -/
theorem we_slW {n : Int} {kk : _} {p3 : Pos} (h : WE X e σ H fun v H1 => ∃ p vs, v = .ref p ∧ H1 p = some (.lst vs) ∧ ∀ np, H1 np = none → Q (.ref np) (upd H1 np (.lst (cutV vs none (some n))))) : WE X (.Subscript e (.Slice none (some (.Constant (.int n) kk p3)) none p2) pos) σ H Q :=
  we_of (pe_slice sl_list pe_we po_none (po_some pe_int)) (h.mono fun v H1 ⟨p, vs, e1, h1, q⟩ => ⟨n, rfl, p, vs, e1, SqL.of h1, fun np hnp => q np hnp⟩)
end
section
variable {P : Program} {w : World} {K : PySem.W.Frag} {mg : Str → Option Value} {base : Heap} {C CH : Addr}
def spIs (C CH : Addr) : Sp := fun vs H Q _ => ∃ (h dxh sh kp dn un q : Addr) (n : Int) (ow : List Addr) (ds us : List (Fe × Fe)) (l : List Itm) (cs bs : List (List Int)) (fl : List (Nat × Nat)), vs = [V.ref h, .ref q] ∧ HA C CH H h dxh sh kp dn un n ow ds us l cs bs fl ∧ Ls H q (l.map eTI) ∧ ∀ H', Same H H' → Q (.bl true) H'
abbrev N73 : List Str := ["_law_history", "_law_items", "_law_order", "_law_due", "_law_turn", "_law_found", "_law_row", "_law_simplex", "_law_height"]
abbrev W73 : List Nat := [4, 5, 6, 7, 8]
theorem sc_73 : FnScope N73 ["_law_history", "_law_items"] (defScope (top 73)) := ⟨rfl, rfl, rfl, by decide +kernel, rfl, by decide +kernel, by decide +kernel⟩
theorem ok_lis (M : Mg mg) (G : HFc K CH) (S : Stands K mg "_law_is_kept" 73) (DP : Df0 P w K mg base "_law_pairs" 2 (spN rLP)) (DB : Df0 P w K mg base "_law_bars" 3 (spN rLB)) (DR : Df0 P w K mg base "_law_are_right" 2 (spU rLR)) (DS : DfG P w K mg base "_law_same" 1 (spSame K))
    (D1 : Mt P w K mg base CH "shape" 1 (spLook C CH fun l _ _ _ => l.map eTI)) (D2 : Mt P w K mg base CH "pairs" 2 (spLook C CH fun _ _ bs fl => (pairsOf bs fl).map eP)) (D3 : Mt P w K mg base CH "bars" 5 (spLook C CH fun l _ bs fl => ((barsOf l (pairsOf bs fl)).mergeSort leB).map eB)) (D4 : Mt P w K mg base CH "chains" 2 (spLook C CH fun _ cs _ _ => cs.map eS)) :
    DfG P w K mg base "_law_is_kept" 6 (spIs C CH) := by
  refine mk_defG S sc_73 (fun vs H Q E h => by obtain ⟨_, _, _, _, _, _, _, _, _, _, _, _, _, _, _, rfl, _⟩ := h; rfl) (fun _ _ _ _ _ _ us hl => match us, hl with | [_, _], _ => rfl) fun f cdv A outer s H vs Q E hgd hr hsp => ?_
  obtain ⟨h, dxh, sh, kp, dn, un, q, n, ow, ds, us, l, cs, bs, fl, rfl, HAh, hq, q'⟩ := hsp
  have VV := HAh.vs
  have hst := HAh.st
  have hlen := VV.len
  obtain ⟨dxk, ka, kb, kc, kd, how, KA1, O, KVh, RPh⟩ := id HAh.ks
  have hol : (ordOf l).length = l.length := by unfold ordOf; rw [List.length_map]
  have hbl : bs.length = l.length := KVh.lb.trans hol
  have hv : L2.start N73 [V.ref h, .ref q] = [some (.ref h), some (.ref q), none, none, none, none, none, none, none] := rfl
  rw [hv]
  have S0 : Sl H [some (V.ref h), some (.ref q), none, none, none, none, none, none, none] [none, some (.l (l.map eTI)), none, none, none, none, none, none, none] := ⟨rfl, fun i r z => by
    match i with
    | 0 => cases z
    | 1 => cases z; exact ⟨_, rfl, q, rfl, hq⟩
    | 2 => cases z
    | 3 => cases z
    | 4 => cases z
    | 5 => cases z
    | 6 => cases z
    | 7 => cases z
    | 8 => cases z
    | i + 9 => cases z⟩
  -- order
  refine wss_cons (ws_setLc 2 S0 ((lcd2a (xs := l) (enc := eTI) (own := [("_law_simplex", 7), ("_law_height", 8)]) (g := g2 K 7 8) N73 (defScope (top 73)) (fun p => [none, some (.l (l.map eTI)), none, none, none, none, none, some (.d (eS p.1)), some (.d (.int p.2))]) (fun p => eS p.1) (src_list (pu_var 1)) sc_73.nd (by omega)
    (fun _ _ _ _ _ => pg_2 7 8 sc_73.nd) (fun p _ => gd_2) (fun p _ _ _ _ _ _ => pu_var 7)).to (ds' := (ordOf l).map eS) (by unfold ordOf; rw [List.map_map]; rfl)) fun oa H1 n1 s1 l1 => ?_)
  show WSs _ _ _ [some (V.ref h), some (.ref q), some (.ref oa), none, none, none, none, none, none] H1
  have S1 : Sl H1 [some (V.ref h), some (.ref q), some (.ref oa), none, none, none, none, none, none] [none, some (.l (l.map eTI)), some (.l ((ordOf l).map eS)), none, none, none, none, none, none] := (S0.mono s1).set 2 (r := .l ((ordOf l).map eS)) ⟨oa, rfl, l1⟩
  -- due
  refine wss_cons (ws_setW 3 sc_73.nd ?_)
  refine we_lst ?_
  refine wa_cons (we_name 1 rfl ?_)
  refine wa_cons (we_puN S1 (pun_call DP.df (hr.mono (by decide)) (pua_cons (pu_var 2) pua_nil) ⟨ordOf l, cs, bs, fl, rfl, O, KVh, RPh, rfl⟩) fun pp H2 n2 s2 l2 => ?_)
  refine wa_cons (we_puN (S1.mono s2) (pun_call DB.df (hr.mono (by decide)) (pua_cons (pu_var 1) pua_nil) ⟨l, cs, bs, fl, rfl, VV, hst, KVh, RPh, rfl⟩) fun pb H3 n3 s3 l3 => ?_)
  refine wa_nil ⟨by show 3 ≤ sizeLine; decide, fun du hdu => ?_⟩
  show WSs _ _ _ [some (V.ref h), some (.ref q), some (.ref oa), some (.ref du), none, none, none, none, none] (upd H3 du (.lst [.ref q, .ref pp, .ref pb]))
  have s03 := (s1.trans s2).trans s3
  have sdu : Same H (upd H3 du (.lst [.ref q, .ref pp, .ref pb])) := s03.trans (same_new hdu)
  have hq4 := hq.mono sdu
  have l2' := (l2.mono s3).mono (same_new (o := .lst [.ref q, .ref pp, .ref pb]) hdu)
  have l3' := l3.mono (same_new (o := .lst [.ref q, .ref pp, .ref pb]) hdu)
  have lo4 := ((l1.mono s2).mono s3).mono (same_new (o := .lst [.ref q, .ref pp, .ref pb]) hdu)
  have hdu4 : (upd H3 du (.lst [.ref q, .ref pp, .ref pb])) du = some (.lst [.ref q, .ref pp, .ref pb]) := upd_same
  generalize upd H3 du (.lst [.ref q, .ref pp, .ref pb]) = H4 at sdu hq4 l2' l3' lo4 hdu4
  have HA4 := HAh.mono sdu
  generalize hσc : [some (V.ref h), some (.ref q), some (.ref oa), some (.ref du), none, none, none, none, none] = σc
  have g0 : ∀ σ', wipe σ' W73 = wipe σc W73 → σ'[0]? = some (some (V.ref h)) := fun σ' hw => by rw [wipe_get hw (by decide), ← hσc]; rfl
  have g3 : ∀ σ', wipe σ' W73 = wipe σc W73 → σ'[3]? = some (some (V.ref du)) := fun σ' hw => by rw [wipe_get hw (by decide), ← hσc]; rfl
  have gl : ∀ σ', wipe σ' W73 = wipe σc W73 → σ'.length = 9 := fun σ' hw => by
    have := congrArg List.length hw
    rw [wipe_length, wipe_length, ← hσc] at this
    exact this
  have SL : ∀ (H' : Hp) (σ' : L2.St), wipe σ' W73 = wipe σc W73 → Same H4 H' → Sl H' σ' [none, none, some (.l ((ordOf l).map eS)), none, none, none, none, none, none] := fun H' σ' hw s' => by
    refine Sl.wiped (σ := σc) (W := W73) ?_ hw bare_of
    subst hσc
    exact ⟨rfl, fun i r z => by
      match i with
      | 0 => cases z
      | 1 => cases z
      | 2 => cases z; exact ⟨_, rfl, oa, rfl, lo4.mono s'⟩
      | 3 => cases z
      | 4 => cases z
      | 5 => cases z
      | 6 => cases z
      | 7 => cases z
      | 8 => cases z
      | i + 9 => cases z⟩
  have wset : ∀ (σ' : L2.St) (i : Nat) (x : Option V), i ∈ W73 → wipe σ' W73 = wipe σc W73 → wipe (σ'.set i x) W73 = wipe σc W73 := fun σ' i x hi hw => (wipe_set hi).trans hw
  have sdd := sd_due (sd_items VV) (sd_pairs RPh KVh.lb (by omega)) (sd_bars (fl := fl) VV (by rw [← hol]; exact RPh) hbl)
  -- two turns
  refine wss_cons (ws_rngW 4 M sc_73.nd (we_pu (SL H4 σc rfl (.refl _)) (pu_int (i := 2)) fun v5 H5 s5 a5 => ?_))
  cases a5
  refine ⟨2, rfl, by decide, fun k σ' H' => wipe σ' W73 = wipe σc W73 ∧ Same H4 H', ⟨rfl, s5⟩, fun k σ' H' hk hP => ?_, fun σ' H' hP => ?_⟩
  · obtain ⟨hw, sH⟩ := hP
    have hw4 := wset σ' 4 (some (.int (k : Nat))) (by simp) hw
    generalize σ'.set 4 (some (V.int (k : Nat))) = σ4 at hw4
    have HA5 := HA4.mono sH
    -- found
    refine wss_cons (ws_setW 5 sc_73.nd ?_)
    refine we_lst ?_
    refine wa_cons (we_meth0 D1 G.cls (hr.mono (by decide)) (we_name 0 (g0 _ hw4) ⟨h, dxh, _, rfl, HA5.hb.hh, rfl, fun E' => ⟨h, dxh, sh, kp, dn, un, n, ow, ds, us, l, cs, bs, fl, rfl, HA5, fun p1 H6 n6 s6 l6 => ?_⟩⟩))
    refine wa_cons (we_meth0 D2 G.cls (hr.mono (by decide)) (we_name 0 (g0 _ hw4) ⟨h, dxh, _, rfl, (HA5.mono s6).hb.hh, rfl, fun E' => ⟨h, dxh, sh, kp, dn, un, n, ow, ds, us, l, cs, bs, fl, rfl, HA5.mono s6, fun p2 H7 n7 s7 l7 => ?_⟩⟩))
    refine wa_cons (we_meth0 D3 G.cls (hr.mono (by decide)) (we_name 0 (g0 _ hw4) ⟨h, dxh, _, rfl, ((HA5.mono s6).mono s7).hb.hh, rfl, fun E' => ⟨h, dxh, sh, kp, dn, un, n, ow, ds, us, l, cs, bs, fl, rfl, (HA5.mono s6).mono s7, fun p3 H8 n8 s8 l8 => ?_⟩⟩))
    refine wa_cons (we_meth0 D4 G.cls (hr.mono (by decide)) (we_name 0 (g0 _ hw4) ⟨h, dxh, _, rfl, (((HA5.mono s6).mono s7).mono s8).hb.hh, rfl, fun E' => ⟨h, dxh, sh, kp, dn, un, n, ow, ds, us, l, cs, bs, fl, rfl, ((HA5.mono s6).mono s7).mono s8, fun p4 H9 n9 s9 l9 => ?_⟩⟩))
    refine wa_nil ⟨by show 4 ≤ sizeLine; decide, fun fa hfa => ?_⟩
    show WSs _ _ _ (σ4.set 5 (some (V.ref fa))) (upd H9 fa (.lst [.ref p1, .ref p2, .ref p3, .ref p4]))
    have f1 : H' p1 = none := n6
    have f2 : H' p2 = none := s6.free n7
    have f3 : H' p3 = none := (s6.trans s7).free n8
    have f4 : H' p4 = none := ((s6.trans s7).trans s8).free n9
    have f5 : H' fa = none := (((s6.trans s7).trans s8).trans s9).free hfa
    have ex : ∀ (H : Hp) (p : Addr) (dd : List PyData), Ls H p dd → p ≠ fa → True := fun _ _ _ _ _ => True.intro
    have nn : ∀ {p : Addr} {dd : List PyData}, Ls H9 p dd → p ≠ fa := fun lp e => by subst e; exact ls_not_none lp hfa
    have l6' := ((l6.mono s7).mono s8).mono s9
    have l7' := (l7.mono s8).mono s9
    have l8' := l8.mono s9
    have e1 := nn l6'
    have e2 := nn l7'
    have e3 := nn l8'
    have e4 := nn l9
    have sN := same_new (o := .lst [.ref p1, .ref p2, .ref p3, .ref p4]) hfa
    have m1 := l6'.mono sN
    have m2 := l7'.mono sN
    have m3 := l8'.mono sN
    have m4 := l9.mono sN
    have sA : Same H' (upd H9 fa (.lst [.ref p1, .ref p2, .ref p3, .ref p4])) := (((s6.trans s7).trans s8).trans s9).trans sN
    have hfa' : (upd H9 fa (.lst [.ref p1, .ref p2, .ref p3, .ref p4])) fa = some (.lst [.ref p1, .ref p2, .ref p3, .ref p4]) := upd_same
    generalize upd H9 fa (.lst [.ref p1, .ref p2, .ref p3, .ref p4]) = H10 at m1 m2 m3 m4 sA hfa'
    clear l6' l7' l8' l9 sN l6 l7 l8
    have hw5 := wset σ4 5 (some (.ref fa)) (by simp) hw4
    have h55 : (σ4.set 5 (some (V.ref fa)))[5]? = some (some (.ref fa)) := List.getElem?_set_self (by rw [gl _ hw4]; decide)
    generalize σ4.set 5 (some (V.ref fa)) = σ5 at hw5 h55
    have s4A := sH.trans sA
    -- the test
    refine wss_cons (ws_ifW (wt_or ?_))
    refine wt_not (wt_val ?_)
    refine we_callG ⟨DS.ex⟩ (hr.mono (by decide)) hgd ?_
    refine wa_cons (we_slW (n := 3) (we_name 5 h55 ⟨fa, _, rfl, hfa', fun np hnp => ?_⟩))
    have ecut : cutV [V.ref p1, .ref p2, .ref p3, .ref p4] none (some 3) = [V.ref p1, .ref p2, .ref p3] := rfl
    rw [ecut]
    refine wa_cons (we_name 3 (g3 _ hw5) (wa_nil fun E' => ?_))
    have sN := same_new (o := .lst [V.ref p1, .ref p2, .ref p3]) hnp
    have s4B := s4A.trans sN
    refine ⟨np, du, _, rfl, .lst (SqL.of upd_same) (.cons (m1.mono sN).dp (.cons (m2.mono sN).dp (.cons (m3.mono sN).dp .nil))), .lst (SqL.of (s4B _ _ hdu4)) (.cons (hq4.mono s4B).dp (.cons (l2'.mono s4B).dp (.cons (l3'.mono s4B).dp .nil))), sdd, true, rfl, ?_⟩
    show (if (!true) = true then _ else _)
    rw [if_neg (by decide)]
    have hfB := sN _ _ hfa'
    have mB4 := m4.mono sN
    have sAB := sA.trans sN
    have mB1 := m1.mono sN
    have mB2 := m2.mono sN
    have mB3 := m3.mono sN
    generalize upd H10 np (.lst [V.ref p1, .ref p2, .ref p3]) = H11 at s4B hfB mB4 sAB mB1 mB2 mB3
    -- are_right(order, found[3])
    have S11 := (SL H11 σ5 hw5 s4B).add 5 (r := .x (fun H v => v = .ref fa ∧ H fa = some (.lst [.ref p1, .ref p2, .ref p3, .ref p4]) ∧ Ls H p4 (cs.map eS)) (fun _ _ _ s h => ⟨h.1, s _ _ h.2.1, h.2.2.mono s⟩) (fun _ _ _ _ _ hd h => ⟨h.1, lock_ne hd h.2.1, h.2.2.lock hd⟩)) h55 ⟨rfl, hfB, mB4⟩
    refine wt_not (wt_pu S11 (pu_val (pu_call DR.df (hr.mono (by decide)) (pua_cons (pu_var 2) (pua_cons (pu_ixX (r := .l (cs.map eS)) (i := 3) (pu_var 5) pu_int fun H v hx => by
      obtain ⟨x1, x2, x3⟩ := hx
      exact ⟨fa, [.ref p1, .ref p2, .ref p3, .ref p4], .ref p4, x1, x2, atI_nat' (n := 3) rfl rfl, p4, rfl, x3⟩) pua_nil)) ⟨ordOf l, cs, bs, fl, rfl, O, KVh, RPh, rfl⟩)) fun H12 s12 => ?_)
    rw [if_neg (by decide)]
    refine wss_nil ?_
    -- for row in found: row.append(None)
    have hfC := s12 _ _ hfB
    have sAC := sAB.trans s12
    have s4C := s4B.trans s12
    have ok : ∀ (j : Nat) (p : Addr), [V.ref p1, .ref p2, .ref p3, .ref p4][j]? = some (V.ref p) → H' p = none ∧ p ≠ fa := fun j p hj => by
      match j with
      | 0 => cases hj; exact ⟨f1, e1⟩
      | 1 => cases hj; exact ⟨f2, e2⟩
      | 2 => cases hj; exact ⟨f3, e3⟩
      | 3 => cases hj; exact ⟨f4, e4⟩
      | j + 4 => cases hj
    have isL : ∀ (j : Nat) (p : Addr), [V.ref p1, .ref p2, .ref p3, .ref p4][j]? = some (V.ref p) → ∃ xs, H12 p = some (.lst xs) ∧ xs.length ≤ 100 := fun j p hj => by
      have rd : ∀ {dd : List PyData} {p : Addr}, Ls H11 p dd → dd.length ≤ 100 → ∃ xs, H12 p = some (.lst xs) ∧ xs.length ≤ 100 := fun ⟨xs, h1, h2⟩ hz => ⟨xs, s12 _ _ h1, by rw [h2.length]; exact hz⟩
      have hpl : (pairsOf bs fl).length ≤ 60 := by
        unfold pairsOf
        rw [List.length_map]
        exact Nat.le_trans (births_len bs) (by omega)
      have hcl := KVh.lc
      match j with
      | 0 => cases hj; exact rd mB1 (by rw [List.length_map]; omega)
      | 1 => cases hj; exact rd mB2 (by rw [List.length_map]; omega)
      | 2 =>
        cases hj
        refine rd mB3 ?_
        rw [List.length_map, List.length_mergeSort]
        unfold barsOf
        rw [List.length_map]
        exact Nat.le_trans (List.length_filter_le _ _) (by omega)
      | 3 => cases hj; exact rd mB4 (by rw [List.length_map]; omega)
      | j + 4 => cases hj
    refine wss_one (ws_forW (g := gName 6) (pg_name sc_73.nd rfl (Or.inl rfl)) (we_name 5 h55 ⟨fa, _, rfl, hfC, fun i σ6 H6 => wipe σ6 W73 = wipe σc W73 ∧ Same H' H6 ∧ H6 fa = some (.lst [.ref p1, .ref p2, .ref p3, .ref p4]) ∧ ∀ (j : Nat) (p : Addr), [V.ref p1, .ref p2, .ref p3, .ref p4][j]? = some (V.ref p) → ∃ xs, H6 p = some (.lst xs) ∧ xs.length ≤ 100 + i, ⟨hw5, sAC, hfC, isL⟩, fun i σ6 H6 _ hP => hP.2.2.1, fun i x σ6 H6 hx hP => ?_, fun σ6 H6 hP => ⟨hP.1, sH.trans hP.2.1⟩⟩))
    obtain ⟨hw6, sP, hf6, hL⟩ := hP
    obtain ⟨p, rfl⟩ : ∃ p, x = V.ref p := by
      match i with
      | 0 => cases hx; exact ⟨_, rfl⟩
      | 1 => cases hx; exact ⟨_, rfl⟩
      | 2 => cases hx; exact ⟨_, rfl⟩
      | 3 => cases hx; exact ⟨_, rfl⟩
      | i + 4 => cases hx
    have hi4 : i < 4 := by have := (List.getElem?_eq_some_iff.mp hx).1; simpa using this
    obtain ⟨xs, hxs, hxl⟩ := hL i p hx
    obtain ⟨np0, npf⟩ := ok i p hx
    show WSs _ _ _ (σ6.set 6 (some (V.ref p))) H6
    have hw7 := wset σ6 6 (some (.ref p)) (by simp) hw6
    have h66 : (σ6.set 6 (some (V.ref p)))[6]? = some (some (.ref p)) := List.getElem?_set_self (by rw [gl _ hw6]; decide)
    generalize σ6.set 6 (some (V.ref p)) = σ7 at hw7 h66
    have S7 : Sl H6 σ7 [none, none, none, none, none, none, none, none, none] := ⟨(gl _ hw7).symm, fun i r z => by
      match i with
      | 0 => cases z
      | 1 => cases z
      | 2 => cases z
      | 3 => cases z
      | 4 => cases z
      | 5 => cases z
      | 6 => cases z
      | 7 => cases z
      | 8 => cases z
      | i + 9 => cases z⟩
    refine wss_one (we_append (we_name 6 h66 ⟨p, rfl, ⟨xs, hxs⟩, we_pu S7 pu_non fun y H7 s7 a7 => ?_⟩))
    cases a7
    have hx7 := s7 _ _ hxs
    refine ⟨xs, hx7, Nat.lt_of_le_of_lt hxl (Nat.lt_of_lt_of_le (show 100 + i < 1000 by omega) (by decide)), hw7, fun a o ho => ?_, ?_, fun j p' hj => ?_⟩
    · rw [upd_ne (ne_of_none ho np0)]; exact s7 _ _ (sP a o ho)
    · rw [upd_ne npf.symm]; exact s7 _ _ hf6
    · by_cases e : p' = p
      · subst e; exact ⟨_, upd_same, by simp; omega⟩
      · obtain ⟨ys, h1, h2⟩ := hL j p' hj
        exact ⟨ys, by rw [upd_ne e]; exact s7 _ _ h1, by omega⟩
  · obtain ⟨hw, sH⟩ := hP
    refine wss_one (ws_ret (SL H' σ' hw sH) pu_bl fun v H6 s6 a6 => ?_)
    cases a6
    exact q' _ ((sdu.trans sH).trans s6)
end
end K47
/-! R4: what stands at each turn of the law -/
namespace K47
open PySem PySem.Spec PyProof.Rows L2
theorem Ls.sxT {H H' : Hp} {p q : Addr} {ds : List PyData} (l : Ls H p ds) (x : SameX q H H') (t : Tx H H') (h : p ≠ q) : Ls H' p ds := by
  obtain ⟨us, h1, h2⟩ := l
  exact ⟨us, x _ _ h h1, h2.mono t⟩
section
variable {C CH : Addr} {H H' : Hp} {h dxh sh kp dn un q d il : Addr} {n : Int} {ow : List Addr} {ds us : List (Fe × Fe)} {l : List Itm} {cs bs : List (List Int)} {fl : List (Nat × Nat)} {ns : List Int}
theorem KS.sx {os : List Sim} (k : KS C H kp ow os cs bs fl) (x : SameX q H H') (t : Tx H H') (hq : q ∉ ow) : KS C H' kp ow os cs bs fl := by
  obtain ⟨dx, a, b, c, d, rfl, A, O, V1, R⟩ := k
  simp at hq
  exact ⟨dx, a, b, c, d, rfl, ⟨A.ab, A.ac, A.bc, x _ _ (fun z => hq.1 z.symm) A.ho, A.ha.sxT x t (fun z => hq.2.1 z.symm), A.hb.sxT x t (fun z => hq.2.2.1 z.symm), A.hc.sxT x t (fun z => hq.2.2.2.1 z.symm), x _ _ (fun z => hq.2.2.2.2 z.symm) A.hd⟩, O, V1, R⟩
/-- an other list is written -/
theorem HA.sx (A : HA C CH H h dxh sh kp dn un n ow ds us l cs bs fl) (x : SameX q H H') (t : Tx H H') (h2 : q ≠ sh) (hq : q ∉ h :: dn :: un :: ow) : HA C CH H' h dxh sh kp dn un n ow ds us l cs bs fl := by
  simp at hq
  exact ⟨⟨x _ _ (fun z => hq.1 z.symm) A.hb.hh, A.hb.hd.sxT x t (fun z => hq.2.1 z.symm), A.hb.hu.sxT x t (fun z => hq.2.2.1 z.symm), A.hb.d1, A.hb.d2, A.hb.d3, A.hb.o1, A.hb.o2, A.hb.o3, A.hb.o4⟩, A.hs.sxT x t h2.symm, A.ks.sx x t hq.2.2.2, A.vs, A.st⟩
theorem Dw.sx (w : Dw d il ns H H') : SameX d H H' := fun a o hn e => w.fr a o (by simpa using hn) e
theorem HA.dw (A : HA C CH H h dxh sh kp dn un n ow ds us l cs bs fl) (h0 : DK H d il ns) (w : Dw d il ns H H') (hq : d ∉ h :: dn :: un :: ow) : HA C CH H' h dxh sh kp dn un n ow ds us l cs bs fl :=
  A.sx w.sx w.tx (fun e => by subst e; exact h0.nls A.hs) hq
theorem HA.own_notup (A : HA C CH H h dxh sh kp dn un n ow ds us l cs bs fl) : ∀ q ∈ h :: dn :: un :: ow, ∀ xs, H q ≠ some (.tup xs) := fun q hq xs e => by
  rcases List.mem_cons.mp hq with z | hq
  · subst z; rw [A.hb.hh] at e; cases e
  rcases List.mem_cons.mp hq with z | hq
  · subst z; obtain ⟨us, h1, _⟩ := A.hb.hd; rw [h1] at e; cases e
  rcases List.mem_cons.mp hq with z | hq
  · subst z; obtain ⟨us, h1, _⟩ := A.hb.hu; rw [h1] at e; cases e
  · exact A.ks.notup q hq xs e
theorem HA.own_live (A : HA C CH H h dxh sh kp dn un n ow ds us l cs bs fl) : ∀ q ∈ h :: dn :: un :: ow, H q ≠ none := fun q hq e => by
  rcases List.mem_cons.mp hq with z | hq
  · subst z; rw [A.hb.hh] at e; cases e
  rcases List.mem_cons.mp hq with z | hq
  · subst z; exact ls_some A.hb.hd e
  rcases List.mem_cons.mp hq with z | hq
  · subst z; exact ls_some A.hb.hu e
  · exact A.ks.live q hq e
end
/-! ### steps that lead from state to state -/
def Stp (a b : List Itm) (p : Fe × Fe) : Prop := p.1.sgl.length ≤ 20 ∧ p.2.sgl.length ≤ 20 ∧ Cans a p.1.sgl ∧ fin a p.1.sgl = b ∧ Cans b p.2.sgl ∧ fin b p.2.sgl = a
theorem inv_sgl (l : List Itm) (e : Fe) : (e.inv l).sgl = (backs l e.sgl).reverse := by
  cases e with
  | one e => rfl
  | all es => rfl
theorem stp_do {l : List Itm} {e : Fe} (VV : VS l) (hs : gr l = l) (hl : e.sgl.length ≤ 20) (hc : Cans l e.sgl) : Stp l (fin l e.sgl) (e, e.inv l) := by
  obtain ⟨h1, h2⟩ := backs_ok e.sgl l VV hs hc
  refine ⟨hl, ?_, hc, rfl, ?_, ?_⟩
  · rw [inv_sgl, List.length_reverse, backs_len]; exact hl
  · show Cans _ (e.inv l).sgl
    rw [inv_sgl]; exact h1
  · show fin _ (e.inv l).sgl = l
    rw [inv_sgl]; exact h2
def Lk (L : List (List Itm)) (S : List (Fe × Fe)) : Prop := ∀ (i : Nat) (a b : List Itm) (p : Fe × Fe), L[i]? = some a → L[i + 1]? = some b → S[i]? = some p → Stp a b p
theorem Lk.do_ {L : List (List Itm)} {ds us : List (Fe × Fe)} {k : Nat} {l l' : List Itm} {p : Fe × Fe} (K : Lk L (ds ++ us)) (hd : ds.length = k) (hl : L[k]? = some l) (hs : Stp l l' p) : Lk (L.take (k + 1) ++ [l']) (ds ++ [p]) := by
  have hk : k < L.length := (List.getElem?_eq_some_iff.mp hl).1
  have hlt : (L.take (k + 1)).length = k + 1 := by rw [List.length_take]; omega
  have old : ∀ i, i ≤ k → (L.take (k + 1) ++ [l'])[i]? = L[i]? := fun i hi => by
    rw [List.getElem?_append_left (by omega), List.getElem?_take_of_lt (by omega)]
  have new : (L.take (k + 1) ++ [l'])[k + 1]? = some l' := by
    rw [List.getElem?_append_right (by omega), hlt]; simp
  intro i a b q ha hb hq
  have hi := (List.getElem?_eq_some_iff.mp hq).1
  rw [List.length_append, List.length_singleton, hd] at hi
  by_cases e : i = k
  · subst e
    rw [old i (Nat.le_refl _), hl] at ha
    rw [new] at hb
    rw [List.getElem?_append_right (by omega), hd] at hq
    simp at hq
    cases ha; cases hb; rw [← hq]; exact hs
  · rw [old i (by omega)] at ha
    rw [old (i + 1) (by omega)] at hb
    rw [List.getElem?_append_left (by omega)] at hq
    exact K i a b q ha hb (by rw [List.getElem?_append_left (by omega)]; exact hq)
/-! ### at a turn -/
structure LI (C CH d il hd h dxh kp dn : Addr) (ns : List Int) (H : Hp) (st : Addr) (sts : List Addr) (L : List (List Itm)) (k : Nat) (sh un : Addr) (n : Int) (ow : List Addr) (ds us : List (Fe × Fe)) (l : List Itm) (cs bs : List (List Int)) (fl : List (Nat × Nat)) : Prop where
  dk : DK H d il ns
  hh : H hd = some (.lst [])
  hs : H st = some (.lst (sts.map V.ref))
  ll : LL H sts L
  ha : HA C CH H h dxh sh kp dn un n ow ds us l cs bs fl
  la : L[k]? = some l
  dl : ds.length = k
  ul : ds.length + us.length + 1 = L.length
  lk : Lk L (ds ++ us.reverse)
  sd : st ≠ d
  off : ∀ x, x = d ∨ x = il ∨ x = hd ∨ x = st ∨ x ∈ sts → x ∉ h :: dn :: un :: ow
theorem paired_mem {α β : Type} {F : α → β → Prop} : ∀ {as : List α} {bs : List β}, Paired F as bs → ∀ a ∈ as, ∃ b, F a b
  | _, _, .nil, _, h => nomatch h
  | _, _, .cons x t, a, h => by
    rcases List.mem_cons.mp h with z | z
    · subst z; exact ⟨_, x⟩
    · exact paired_mem t a z
theorem paired_map {α β : Type} {F G : α → β → Prop} : ∀ {as : List α} {bs : List β}, Paired F as bs → (∀ a ∈ as, ∀ b, F a b → G a b) → Paired G as bs
  | _, _, .nil, _ => .nil
  | _, _, .cons x t, h => .cons (h _ (by simp) _ x) (paired_map t fun a ha b => h a (by simp [ha]) b)
section
variable {C CH d il hd h dxh kp dn : Addr} {ns : List Int} {H H' : Hp} {st : Addr} {sts : List Addr} {L : List (List Itm)} {k : Nat} {sh un : Addr} {n : Int} {ow : List Addr} {ds us : List (Fe × Fe)} {l : List Itm} {cs bs : List (List Int)} {fl : List (Nat × Nat)}
theorem LI.same (I : LI C CH d il hd h dxh kp dn ns H st sts L k sh un n ow ds us l cs bs fl) (s : Same H H') : LI C CH d il hd h dxh kp dn ns H' st sts L k sh un n ow ds us l cs bs fl :=
  ⟨I.dk.mono s, s _ _ I.hh, s _ _ I.hs, I.ll.mono s, I.ha.mono s, I.la, I.dl, I.ul, I.lk, I.sd, I.off⟩
theorem LI.hdne (I : LI C CH d il hd h dxh kp dn ns H st sts L k sh un n ow ds us l cs bs fl) : hd ≠ d := fun e => by
  obtain ⟨_, c, p, sd, kk, _, h1, _⟩ := I.dk
  have := I.hh
  rw [e, h1] at this; cases this
theorem LI.dw (I : LI C CH d il hd h dxh kp dn ns H st sts L k sh un n ow ds us l cs bs fl) (w : Dw d il ns H H') : LI C CH d il hd h dxh kp dn ns H' st sts L k sh un n ow ds us l cs bs fl :=
  ⟨w.dk, w.fr _ _ (by simpa using I.hdne) I.hh, w.fr _ _ (by simpa using I.sd) I.hs, Paired.mapP I.ll fun _ _ z => Ls.dw z I.dk w, I.ha.dw I.dk w (I.off d (.inl rfl)), I.la, I.dl, I.ul, I.lk, I.sd, I.off⟩
/-- what is protected lives -/
theorem LI.live (I : LI C CH d il hd h dxh kp dn ns H st sts L k sh un n ow ds us l cs bs fl) : ∀ x, x = d ∨ x = il ∨ x = hd ∨ x = st ∨ x ∈ sts → H x ≠ none := fun x hx e => by
  rcases hx with z | z | z | z | z
  · subst z; exact I.dk.ne_none.1 e
  · subst z; exact I.dk.ne_none.2 e
  · subst z; rw [I.hh] at e; cases e
  · subst z; rw [I.hs] at e; cases e
  · obtain ⟨b, hb⟩ := paired_mem I.ll x z
    exact ls_not_none hb e
/-- behind a method of the History -/
theorem LI.meth (I : LI C CH d il hd h dxh kp dn ns H st sts L k sh un n ow ds us l cs bs fl) {k' : Nat} {sh' un' : Addr} {n' : Int} {ow' : List Addr} {ds' us' : List (Fe × Fe)} {l' : List Itm} {cs' bs' : List (List Int)} {fl' : List (Nat × Nat)}
    (A : HA C CH H' h dxh sh' kp dn un' n' ow' ds' us' l' cs' bs' fl') (f : Fr (h :: dn :: un :: ow) H H') (nw : Nw ow ow' H) (nu : un' = un ∨ un' ∈ ow ∨ H un' = none) (la : L[k']? = some l') (dl : ds'.length = k') (ul : ds'.length + us'.length + 1 = L.length) (lk : Lk L (ds' ++ us'.reverse)) :
    LI C CH d il hd h dxh kp dn ns H' st sts L k' sh' un' n' ow' ds' us' l' cs' bs' fl' := by
  have t : Tx H H' := f.tx I.ha.own_notup
  refine ⟨?_, f _ _ (I.off hd (.inr (.inr (.inl rfl)))) I.hh, f _ _ (I.off st (.inr (.inr (.inr (.inl rfl))))) I.hs, paired_map I.ll fun a ha b z => z.fr f (I.off a (.inr (.inr (.inr (.inr ha))))) t, A, la, dl, ul, lk, I.sd, fun x hx hm => ?_⟩
  · obtain ⟨hn, c, p, sd, kk, hp, h1, h2⟩ := I.dk
    exact ⟨hn, c, p, sd, kk, hp, f _ _ (I.off d (.inl rfl)) h1, f _ _ (I.off il (.inr (.inl rfl))) h2⟩
  · have ho := I.off x hx
    have hl := I.live x hx
    simp only [List.mem_cons, not_or] at ho
    simp only [List.mem_cons] at hm
    rcases hm with z | z | z | z
    · exact ho.1 z
    · exact ho.2.1 z
    · rcases nu with y | y | y
      · exact ho.2.2.1 (z.trans y)
      · exact ho.2.2.2 (by rw [z]; exact y)
      · exact hl (by rw [z]; exact y)
    · rcases nw x z with y | y
      · exact ho.2.2.2 y
      · exact hl y
end
theorem cutV_ref (sts : List Addr) (k : Nat) (i : Int) (e : i = (k : Int)) (h : k ≤ sts.length) : cutV (sts.map V.ref) none (some i) = (sts.take k).map V.ref := by
  subst e
  unfold cutV
  rw [HT.sIx_nat, HT.sIx_none, List.length_map, Nat.min_eq_left h, List.map_take]; simp
end K47
/-! R5: law -/
namespace K47
open PySem PySem.Spec PyProof.Rows L2
section
variable {X : Cx} {σ : L2.St} {H : Hp} {e b : Expr} {st : Stmt} {D : Ends} {pos p2 : Pos} {Q : VK}
/-- what stands between a statement and the rest -/
theorem ws_cut {R : L2.St → Hp → Prop} (h : WS X st { D with nx := R } σ H) (q : ∀ σ' H', R σ' H' → D.nx σ' H') : WS X st D σ H := fun pins s I => thn (h pins s I) fun f s' z => by
  cases f with
  | next => obtain ⟨a, b, c, d⟩ := z; exact ⟨a, b, c, q _ _ d⟩
  | brk => exact z
  | cont => exact z
  | ret v => exact z
theorem we_slE (h : WE X e σ H fun v H1 => WE X b σ H1 fun u H2 => ∃ (n : Int) (p : Addr) (vs : List V), u = .int n ∧ v = .ref p ∧ H2 p = some (.lst vs) ∧ ∀ np, H2 np = none → Q (.ref np) (upd H2 np (.lst (cutV vs none (some n))))) : WE X (.Subscript e (.Slice none (some b) none p2) pos) σ H Q :=
  we_of (pe_slice sl_list pe_we po_none (po_some pe_we)) (h.mono fun v H1 z => z.mono fun u H2 ⟨n, p, vs, eu, e1, h1, q⟩ => ⟨n, eu, p, vs, e1, SqL.of h1, fun np hnp => q np hnp⟩)
end
theorem sl_none {H : Hp} {σ : L2.St} {n : Nat} (h : σ.length = n) : Sl H σ (List.replicate n none) := ⟨by rw [List.length_replicate, h], fun i r e => by
  rw [List.getElem?_replicate] at e
  split at e <;> cases e⟩
def muH (hd : Addr) (H : Hp) : Nat := match H hd with
  | some (.lst xs) => xs.length
  | _ => 0
section
variable {C CH d il hd h dxh kp dn : Addr} {ns : List Int} {H H' : Hp} {st : Addr} {sts : List Addr} {L : List (List Itm)} {k : Nat} {sh un : Addr} {n : Int} {ow : List Addr} {ds us : List (Fe × Fe)} {l : List Itm} {cs bs : List (List Int)} {fl : List (Nat × Nat)}
/-- an address that is protected stays so behind a method -/
theorem LI.out (I : LI C CH d il hd h dxh kp dn ns H st sts L k sh un n ow ds us l cs bs fl) {un' : Addr} {ow' : List Addr} (nw : Nw ow ow' H) (nu : un' = un ∨ un' ∈ ow ∨ H un' = none) {x : Addr} (ho : x ∉ h :: dn :: un :: ow) (hl : H x ≠ none) : x ∉ h :: dn :: un' :: ow' := fun hm => by
  simp only [List.mem_cons, not_or] at ho
  simp only [List.mem_cons] at hm
  rcases hm with z | z | z | z
  · exact ho.1 z
  · exact ho.2.1 z
  · rcases nu with y | y | y
    · exact ho.2.2.1 (z.trans y)
    · exact ho.2.2.2 (by rw [z]; exact y)
    · exact hl (by rw [z]; exact y)
  · rcases nw x z with y | y
    · exact ho.2.2.2 y
    · exact hl y
end
theorem paired_take {α β : Type} {F : α → β → Prop} : ∀ {as : List α} {bs : List β}, Paired F as bs → ∀ n, Paired F (as.take n) (bs.take n)
  | _, _, .nil, n => by simpa using Paired.nil
  | _, _, .cons x t, 0 => .nil
  | _, _, .cons x t, n + 1 => .cons x (paired_take t n)
/-- what the law's loop keeps -/
def LP (C CH d il hd h dxh kp dn : Addr) (ns : List Int) (k : Nat) (σ : L2.St) (H : Hp) : Prop := σ.length = 12 ∧ σ[1]? = some (some (V.ref d)) ∧ σ[4]? = some (some (V.ref hd)) ∧ σ[5]? = some (some (V.ref h)) ∧
  ∃ (st : Addr) (sts : List Addr) (L : List (List Itm)) (at_ : Nat) (sh un : Addr) (n : Int) (ow : List Addr) (ds us : List (Fe × Fe)) (l : List Itm) (cs bs : List (List Int)) (fl : List (Nat × Nat)),
    σ[6]? = some (some (V.ref st)) ∧ σ[7]? = some (some (V.int (at_ : Nat))) ∧ L.length ≤ k + 1 ∧ LI C CH d il hd h dxh kp dn ns H st sts L at_ sh un n ow ds us l cs bs fl
section
variable {P : Program} {w : World} {K : PySem.W.Frag} {mg : Str → Option Value} {base : Heap} {C CH : Addr}
def spLaw (K : PySem.W.Frag) : Sp := fun vs H Q _ => ∃ (a : Addr) (ns : List Int), vs = [V.ref a] ∧ SqL K H a (ns.map V.int) ∧ ∀ H', Q (.bl true) H'
abbrev N74 : List Str := ["_law_script", "_law_deck_here", "_law_shape_here", "_law_before", "_law_handed", "_law_history", "_law_states", "_law_at", "_law_turn", "_law_kind", "_law_edit_here", "_law_behind"]
theorem sc_74 : FnScope N74 ["_law_script"] (defScope (top 74)) := ⟨rfl, rfl, rfl, by decide +kernel, rfl, by decide +kernel, by decide +kernel⟩
theorem ok_law {f : Addr} {fd : FuncData} (M : Mg mg) (G : HFc K CH) (S : FnT K "law" "law" (top 74) f fd) (DDk : Df0 P w K mg base "_law_deck" 1 (spDeck K)) (DD : Df0 P w K mg base "_law_draw" 1 spDraw) (DSh : Df0 P w K mg base "_law_shape" 3 spShape) (DG : Df0 P w K mg base "_law_grown" 1 (spN rLGr)) (DE : Df0 P w K mg base "_law_edit" 4 spEdit) (DIs : DfG P w K mg base "_law_is_kept" 6 (spIs C CH))
    (DHI : MkI P w K mg base CH "History" 7 (spHI C CH)) (DDo : Mt P w K mg base CH "do" 10 (spDo C CH)) (DUn : Mt P w K mg base CH "undo" 10 (spUndo C CH)) (DRe : Mt P w K mg base CH "redo" 10 (spRedo C CH)) : FnG P w K mg base 11 f fd ["_law_script"] (spLaw K) := by
  refine mk_fnG S sc_74 (fun vs H Q E h => by obtain ⟨_, _, rfl, _⟩ := h; rfl) fun cdv A outer s H vs Q E hgd hr hsp => ?_
  obtain ⟨a, ns, rfl, hsq, q'⟩ := hsp
  have hu20 : (A.deeper (envOfC "law" (defScope (top 74)) s.heap.objs.size f cdv)).units + 20 < cLine := by have := hr.un; omega
  have hu64 : (A.deeper (envOfC "law" (defScope (top 74)) s.heap.objs.size f cdv)).units + 64 < cLine := by have := hr.un; omega
  have hv : L2.start N74 [V.ref a] = [some (.ref a), none, none, none, none, none, none, none, none, none, none, none] := rfl
  rw [hv]
  -- deck
  refine wss_cons (ws_setW 1 sc_74.nd (we_call DDk.df (hr.mono (by decide)) (wa_cons (we_name 0 rfl (wa_nil fun E' => ⟨a, ns, rfl, hsq, fun d il H1 nd nil s1 dk1 => ?_⟩)))))
  show WSs _ _ _ [some (.ref a), some (.ref d), none, none, none, none, none, none, none, none, none, none] H1
  -- behind the shape
  have main : ∀ (H3 : Hp) (p : Addr) (l : List Itm), DK H3 d il ns → Ls H3 p (l.map eTI) → VS l → WSs (cxOf CX0 P w K mg base N74 "law" (defScope (top 74)) f cdv A outer s H E).nox ((defBody (top 74)).drop 3) { nx := fun _ H' => Q .non H', rt := Q } [some (.ref a), some (.ref d), some (.ref p), none, none, none, none, none, none, none, none, none] H3 := by
    intro H3 p l dk3 lp VV
    have hlen := VV.len
    have sd := (sd_items VV).mono (m := 10) (c := 1000000) (by decide) (by decide)
    -- before
    refine wss_cons (ws_setW 3 sc_74.nd (we_repr M hu20 hgd (we_name 2 rfl ⟨p, .list (l.map eTI), rfl, lp.dp, sd, ?_⟩)))
    generalize ebf : (PyData.list (l.map eTI)).shown = bf
    show WSs _ _ _ [some (.ref a), some (.ref d), some (.ref p), some (.str bf), none, none, none, none, none, none, none, none] H3
    have S3 : Sl H3 [some (V.ref a), some (.ref d), some (.ref p), some (.str bf), none, none, none, none, none, none, none, none] ((List.replicate 12 none).set 2 (some (.l (l.map eTI)))) := (sl_none rfl).add 2 (r := .l (l.map eTI)) rfl ⟨p, rfl, lp⟩
    -- handed
    refine wss_cons (ws_setN 4 sc_74.nd S3 (pun_listL M (pu_var 2)) fun hd H4 n4 s4 l4 => ?_)
    show WSs _ _ _ [some (.ref a), some (.ref d), some (.ref p), some (.str bf), some (.ref hd), none, none, none, none, none, none, none] H4
    have dk4 := dk3.mono s4
    have lp4 := lp.mono s4
    have nph : p ≠ hd := fun e => by subst e; exact ls_not_none lp n4
    -- history
    refine wss_cons (ws_setW 5 sc_74.nd (we_make DHI (hr.mono (by decide)) (wa_cons (we_name 4 rfl (wa_nil fun x dx nx ndx nxd E' => ?_)))))
    have sm : Same H4 (upd (upd H4 dx (.own x)) x (.ins CH dx [])) := (same_new ndx).trans (same_new (by rw [upd_ne nxd.symm]; exact nx))
    refine ⟨x, dx, hd, l, rfl, upd_same, l4.mono sm, VV, fun H5 sh kp dn un n ow cs bs fl HA5 f5 nsh ndn nun now => ⟨rfl, ?_⟩⟩
    show WSs _ _ _ [some (.ref a), some (.ref d), some (.ref p), some (.str bf), some (.ref hd), some (.ref x), none, none, none, none, none, none] H5
    have s45 : Same H4 H5 := fun y u e => f5 y u (by simpa using ne_of_none e nx) (sm y u e)
    have off : ∀ y, H4 y ≠ none → y ∉ x :: dn :: un :: ow := fun y hy hm => by
      simp only [List.mem_cons] at hm
      rcases hm with z | z | z | z
      · subst z; exact hy nx
      · subst z; exact hy (sm.free ndn)
      · subst z; exact hy (sm.free nun)
      · exact hy (sm.free (now y z))
    have nsh4 : H4 sh = none := sm.free nsh
    have offd := off d dk4.ne_none.1
    have offi := off il dk4.ne_none.2
    have offh := off hd (ls_some l4)
    have hdsh : hd ≠ sh := fun e => by subst e; exact ls_not_none l4 nsh4
    have dk5 := dk4.mono s45
    have lp5 := lp4.mono s45
    have l5 := l4.mono s45
    have hnd : hd ≠ d := fun e => by subst e; exact dk4.nls l4
    have hni : hd ≠ il := fun e => by subst e; exact dk3.ne_none.2 n4
    clear sm f5 nsh ndn nun now nsh4 nx ndx nxd
    -- the check
    refine wss_cons (ws_ifW (wt_cmp op_ne (by rfl) (we_repr M hu20 hgd (we_name 4 rfl ⟨hd, .list (l.map eTI), rfl, l5.dp, sd, we_name 3 rfl ⟨rfl, _, rfl, ?_⟩⟩))))
    have hbf : (!decide (V.str (PyData.list (l.map eTI)).shown = V.str bf)) = false := by rw [ebf]; simp
    rw [hbf, if_neg (by decide)]
    refine wss_nil ?_
    generalize hσ5 : [some (V.ref a), some (.ref d), some (.ref p), some (.str bf), some (.ref hd), some (.ref x), none, none, none, none, none, none] = σ5
    have k5 : σ5.length = 12 := by rw [← hσ5]; rfl
    have k1 : σ5[1]? = some (some (V.ref d)) := by rw [← hσ5]; rfl
    have k2 : σ5[2]? = some (some (V.ref p)) := by rw [← hσ5]; rfl
    have k4 : σ5[4]? = some (some (V.ref hd)) := by rw [← hσ5]; rfl
    have k55 : σ5[5]? = some (some (V.ref x)) := by rw [← hσ5]; rfl
    obtain ⟨xs5, hx5, al5⟩ := id l5
    have hxl5 : xs5.length ≤ 60 := by rw [al5.length, List.length_map]; exact hlen
    -- while
    refine wss_cons (ws_while (fun σ' H' => σ' = σ5 ∧ DK H' d il ns ∧ HA C CH H' x dx sh kp dn un n ow [] [] (gr l) cs bs fl ∧ Ls H' p (l.map eTI) ∧ ∃ xs, H' hd = some (.lst xs) ∧ xs.length ≤ 60) (fun _ H' => muH hd H') ⟨rfl, dk5, HA5, lp5, xs5, hx5, hxl5⟩ fun σ' H' hP => ?_)
    obtain ⟨rfl, dk', HA', lp', xs, hx, hxl⟩ := hP
    refine wt_cmp op_gt (by rfl) (we_cB call_len_seq M.len boot_len (wa_cons (we_name 4 k4 (wa_nil ⟨hd, xs, rfl, .inl (SqL.of hx), we_pu (sl_none k5) (pu_int (i := 0)) fun z H6 s6 a6 => ?_⟩))))
    cases a6
    refine ⟨(xs.length : Int), 0, rfl, rfl, _, rfl, ?_⟩
    have hx6 := s6 _ _ hx
    have dk6 := dk'.mono s6
    have HA6 := HA'.mono s6
    have lp6 := lp'.mono s6
    by_cases hc : (0 : Int) < (xs.length : Int)
    · rw [decide_eq_true hc, if_pos rfl]
      refine wss_one (ws_expr (we_pop (we_name 4 k4 ⟨hd, xs, xs[xs.length - 1]'(by omega), rfl, hx6, List.getElem?_eq_getElem (by omega), ?_⟩)))
      have t7 : Tx H6 (upd H6 hd (.lst xs.dropLast)) := .mut hx6 fun _ z => nomatch z
      refine ⟨⟨rfl, dk6.x .upd hnd.symm hni.symm, HA6.sx .upd t7 hdsh offh, lp6.sxT .upd t7 nph, xs.dropLast, upd_same, by rw [List.length_dropLast]; omega⟩, ?_⟩
      show muH hd (upd H6 hd (.lst xs.dropLast)) < muH hd H'
      unfold muH
      rw [upd_same, hx]
      show xs.dropLast.length < xs.length
      rw [List.length_dropLast]; omega
    rw [decide_eq_false hc, if_neg (by simp)]
    have hx0 : xs = [] := List.length_eq_zero_iff.mp (by omega)
    subst hx0
    clear hc hx dk' HA' lp' s6 hxl l5 hx5 al5 hxl5 dk5 HA5 lp5
    -- states
    refine wss_cons (ws_setW 6 sc_74.nd (we_lst (wa_cons (we_puN ((sl_none (H := H6) k5).add 2 (r := .l (l.map eTI)) k2 ⟨p, rfl, lp6⟩) (pun_call DG.df (hr.mono (by decide)) (pua_cons (pu_var 2) pua_nil) ⟨l, by omega, rfl, rfl⟩) fun g H7 n7 s7 l7 => wa_nil ⟨by show 1 ≤ sizeLine; decide, fun st hst => ?_⟩))))
    show WSs _ _ _ (σ'.set 6 (some (V.ref st))) (upd H7 st (.lst [.ref g]))
    have s78 := same_new (o := .lst [V.ref g]) hst
    have s68 := s7.trans s78
    have st6 : H6 st = none := s7.free hst
    have hs8 : (upd H7 st (.lst [V.ref g])) st = some (.lst ([g].map V.ref)) := upd_same
    have l8 := l7.mono s78
    generalize upd H7 st (.lst [V.ref g]) = H8 at s78 s68 hs8 l8
    have live6 : ∀ y ∈ x :: dn :: un :: ow, H6 y ≠ none := HA6.own_live
    have I8 : LI C CH d il hd x dx kp dn ns H8 st [g] [gr l] 0 sh un n ow [] [] (gr l) cs bs fl := {
      dk := dk6.mono s68
      hh := s68 _ _ hx6
      hs := hs8
      ll := .cons l8 .nil
      ha := HA6.mono s68
      la := rfl
      dl := rfl
      ul := rfl
      lk := fun i a b q _ _ hq => by simp at hq
      sd := fun e => by subst e; exact dk6.ne_none.1 st6
      off := fun y hy => by
        rcases hy with z | z | z | z | z
        · subst z; exact offd
        · subst z; exact offi
        · subst z; exact offh
        · subst z; exact fun hm => live6 _ hm st6
        · rw [List.mem_singleton.mp z]; exact fun hm => live6 _ hm n7 }
    have k6 : (σ'.set 6 (some (V.ref st))).length = 12 := by rw [List.length_set]; exact k5
    have k61 : (σ'.set 6 (some (V.ref st)))[1]? = some (some (V.ref d)) := by rw [List.getElem?_set_ne (by decide)]; exact k1
    have k64 : (σ'.set 6 (some (V.ref st)))[4]? = some (some (V.ref hd)) := by rw [List.getElem?_set_ne (by decide)]; exact k4
    have k65 : (σ'.set 6 (some (V.ref st)))[5]? = some (some (V.ref x)) := by rw [List.getElem?_set_ne (by decide)]; exact k55
    have k66 : (σ'.set 6 (some (V.ref st)))[6]? = some (some (V.ref st)) := List.getElem?_set_self (by omega)
    generalize σ'.set 6 (some (V.ref st)) = σ6 at k6 k61 k64 k65 k66
    -- at
    refine wss_cons (ws_set 7 sc_74.nd (sl_none k6) (pu_int (i := 0)) fun v9 H9 s9 a9 => ?_)
    cases a9
    show WSs _ _ _ (σ6.set 7 (some (V.int 0))) H9
    have I9 := I8.same s9
    have k7 : (σ6.set 7 (some (V.int 0))).length = 12 := by rw [List.length_set]; exact k6
    have k71 : (σ6.set 7 (some (V.int 0)))[1]? = some (some (V.ref d)) := by rw [List.getElem?_set_ne (by decide)]; exact k61
    have k74 : (σ6.set 7 (some (V.int 0)))[4]? = some (some (V.ref hd)) := by rw [List.getElem?_set_ne (by decide)]; exact k64
    have k75 : (σ6.set 7 (some (V.int 0)))[5]? = some (some (V.ref x)) := by rw [List.getElem?_set_ne (by decide)]; exact k65
    have k76 : (σ6.set 7 (some (V.int 0)))[6]? = some (some (V.ref st)) := by rw [List.getElem?_set_ne (by decide)]; exact k66
    have k77 : (σ6.set 7 (some (V.int 0)))[7]? = some (some (V.int 0)) := List.getElem?_set_self (by omega)
    generalize σ6.set 7 (some (V.int 0)) = σ7 at k7 k71 k74 k75 k76 k77
    -- is_kept
    refine wss_cons (ws_ifW (wt_not (wt_val ?_)))
    refine we_callG ⟨DIs.ex⟩ (hr.mono (by decide)) hgd ?_
    refine wa_cons (we_name 5 k75 ?_)
    refine wa_cons (we_ixL (we_name 6 k76 (we_pu (sl_none k7) (pu_int (i := 0)) fun z H10 s10 a10 => ?_)))
    cases a10
    have I10 := I9.same s10
    refine ⟨st, _, 0, .ref g, rfl, rfl, I10.hs, atI_nat' (n := 0) rfl rfl, wa_nil fun E' => ?_⟩
    obtain ⟨g', eg, lg⟩ := paired_get I10.ll (i := 0) rfl
    cases eg
    refine ⟨x, dx, sh, kp, dn, un, g, n, ow, [], [], gr l, cs, bs, fl, rfl, I10.ha, lg, fun H11 s11 => ⟨true, rfl, ?_⟩⟩
    show (if (!true) = true then _ else _)
    rw [if_neg (by decide)]
    refine wss_nil ?_
    have I11 := I10.same s11
    -- the turns
    refine wss_cons (ws_rngW 8 M sc_74.nd (we_pd (k := 1) (d := d) (il := il) (ns := ns) (sl_none k7) k71 I11.dk (pd_drawP (i := 13) DD.df (hr.mono (by decide)) rfl pu_int (by decide) (by decide)) fun nn H12 hnn w12 => ?_))
    obtain ⟨hn0, hn1⟩ := hnn
    refine ⟨nn.toNat, by rw [Int.toNat_of_nonneg hn0], by omega, fun k σ' H' => k ≤ 13 ∧ LP C CH d il hd x dx kp dn ns k σ' H', ⟨by omega, k7, k71, k74, k75, st, [g], [gr l], 0, sh, un, n, ow, [], [], gr l, cs, bs, fl, k76, k77, Nat.le_refl _, I11.dw w12⟩, fun k σ1 H13 hk hP => ?_, fun σ1 H13 hP => ?_⟩
    · obtain ⟨hk13, e0, e1, e4, e5, st, sts, L, at_, sh, un, n, ow, ds, us, l, cs, bs, fl, e6, e7, hL, I⟩ := hP
      clear I8 I9 I10 I11 k6 k61 k64 k65 k66 k7 k71 k74 k75 k76 k77 hs8 l8 s78 s68 lg live6
      have f0 : (σ1.set 8 (some (V.int (k : Nat)))).length = 12 := by rw [List.length_set]; exact e0
      have f1 : (σ1.set 8 (some (V.int (k : Nat))))[1]? = some (some (V.ref d)) := by rw [List.getElem?_set_ne (by decide)]; exact e1
      have f4 : (σ1.set 8 (some (V.int (k : Nat))))[4]? = some (some (V.ref hd)) := by rw [List.getElem?_set_ne (by decide)]; exact e4
      have f5 : (σ1.set 8 (some (V.int (k : Nat))))[5]? = some (some (V.ref x)) := by rw [List.getElem?_set_ne (by decide)]; exact e5
      have f6 : (σ1.set 8 (some (V.int (k : Nat))))[6]? = some (some (V.ref st)) := by rw [List.getElem?_set_ne (by decide)]; exact e6
      have f7 : (σ1.set 8 (some (V.int (k : Nat))))[7]? = some (some (V.int (at_ : Nat))) := by rw [List.getElem?_set_ne (by decide)]; exact e7
      generalize σ1.set 8 (some (V.int (k : Nat))) = σ8 at f0 f1 f4 f5 f6 f7
      -- kind
      refine wss_cons (ws_setW 9 sc_74.nd (we_pd (k := 1) (d := d) (il := il) (ns := ns) (sl_none f0) f1 I.dk (pd_drawP (i := 5) DD.df (hr.mono (by decide)) rfl pu_int (by decide) (by decide)) fun kd H14 hkd w14 => ?_))
      show WSs _ _ _ (σ8.set 9 (some (V.int kd))) H14
      have J := I.dw w14
      have g0 : (σ8.set 9 (some (V.int kd))).length = 12 := by rw [List.length_set]; exact f0
      have g1 : (σ8.set 9 (some (V.int kd)))[1]? = some (some (V.ref d)) := by rw [List.getElem?_set_ne (by decide)]; exact f1
      have g4 : (σ8.set 9 (some (V.int kd)))[4]? = some (some (V.ref hd)) := by rw [List.getElem?_set_ne (by decide)]; exact f4
      have g5 : (σ8.set 9 (some (V.int kd)))[5]? = some (some (V.ref x)) := by rw [List.getElem?_set_ne (by decide)]; exact f5
      have g6 : (σ8.set 9 (some (V.int kd)))[6]? = some (some (V.ref st)) := by rw [List.getElem?_set_ne (by decide)]; exact f6
      have g7 : (σ8.set 9 (some (V.int kd)))[7]? = some (some (V.int (at_ : Nat))) := by rw [List.getElem?_set_ne (by decide)]; exact f7
      have g9 : (σ8.set 9 (some (V.int kd)))[9]? = some (some (V.int kd)) := List.getElem?_set_self (by omega)
      generalize σ8.set 9 (some (V.int kd)) = σ9 at g0 g1 g4 g5 g6 g7 g9
      clear f0 f1 f4 f5 f6 f7 e0 e1 e4 e5 e6 e7 I w14
      have hal : at_ < L.length := (List.getElem?_eq_some_iff.mp J.la).1
      have hdl := J.dl
      have hul := J.ul
      have SG : ∀ H', Sl H' σ9 (((List.replicate 12 none).set 7 (some (.d (.int (at_ : Nat))))).set 9 (some (.d (.int kd)))) := fun H' => ((sl_none g0).add 7 (r := .d (.int (at_ : Nat))) g7 (.int _)).add 9 (r := .d (.int kd)) g9 (.int _)
      refine wss_cons (ws_cut (R := LP C CH d il hd x dx kp dn ns (k + 1)) ?_ fun σ2 H2 hP2 => ?_)
      · refine ws_if (b := decide (kd = 0) && decide (0 < ((at_ : Nat) : Int))) (SG H14) (PuB.t (pub_and (put_cmp op_eq rv_eqI (by rfl) (pu_var 9) pu_int) fun _ => pub_and1 (put_cmp op_gt rv_gt (by rfl) (pu_var 7) pu_int))) (fun hc H15 s15 => ?_) (fun hc H15 s15 => ?_)
        · -- undo
          simp only [Bool.and_eq_true, decide_eq_true_eq] at hc
          have J5 := J.same s15
          rcases List.eq_nil_or_concat ds with hds | ⟨ds', ⟨e, r⟩, hds⟩
          · rw [hds] at hdl; simp at hdl; omega
          rw [List.concat_eq_append] at hds
          rw [hds] at J5 hdl hul
          rw [List.length_append, List.length_singleton] at hdl hul
          obtain ⟨a0, ha0⟩ : ∃ a0, L[ds'.length]? = some a0 := ⟨_, List.getElem?_eq_getElem (by omega)⟩
          have hstp : Stp a0 l (e, r) := J5.lk ds'.length a0 l (e, r) ha0 (by rw [hdl]; exact J5.la) (by rw [List.append_assoc, List.getElem?_append_right (Nat.le_refl _)]; simp)
          obtain ⟨p1, p2, p3, p4, p5, p6⟩ := hstp
          refine wss_cons (ws_expr (we_meth0 DUn G.cls (hr.mono (by decide)) (we_name 5 g5 ⟨x, dx, _, rfl, J5.ha.hb.hh, rfl, fun E' => ⟨x, dx, sh, kp, dn, un, n, ow, ds', us, l, cs, bs, fl, e, r, rfl, J5.ha, p2, p5, by omega, fun v n' H16 sh' ow' cs' bs' fl' HA' fr' nw' ns' => ?_⟩⟩)))
          have p6 : fin l r.sgl = a0 := p6
          rw [p6] at HA'
          have J6 := J5.meth (k' := ds'.length) HA' fr' nw' (.inl rfl) ha0 rfl (by simp; omega) (by
            have := J5.lk
            simp only [List.append_assoc, List.singleton_append] at this
            simpa using this)
          refine wss_one (ws_set 7 sc_74.nd (SG H16) ((pu_sub (pu_var 7) pu_int).to (r' := .d (.int (ds'.length : Nat))) (by congr 2; omega)) fun v7 H17 s17 a17 => ?_)
          cases a17
          exact ⟨by rw [List.length_set]; exact g0, by rw [List.getElem?_set_ne (by decide)]; exact g1, by rw [List.getElem?_set_ne (by decide)]; exact g4, by rw [List.getElem?_set_ne (by decide)]; exact g5, st, sts, L, ds'.length, sh', un, n', ow', ds', us ++ [(e, r)], a0, cs', bs', fl', by rw [List.getElem?_set_ne (by decide)]; exact g6, List.getElem?_set_self (by omega), by omega, J6.same s17⟩
        · have J5 := J.same s15
          clear hc J
          refine wss_one (ws_ifW (WT.mono (Q := fun b H' => Same H15 H' ∧ (b = true → at_ + 1 < L.length)) (wt_and (wt_pu (SG H15) (put_cmp op_eq rv_eqI (by rfl) (pu_var 9) (pu_int (i := 1))) fun H16 s16 => ?_)) fun b H16 hb => ?_))
          · by_cases hk1 : kd = 1
            · rw [decide_eq_true hk1, if_pos rfl]
              refine wt_cmp op_lt (by rfl) (we_pu (SG H16) (pu_add (pu_var 7) pu_int) fun v17 H17 s17 a17 => ?_)
              cases a17
              refine we_cB call_len_seq M.len boot_len (wa_cons (we_name 6 g6 (wa_nil ⟨st, _, rfl, .inl (SqL.of (s17 _ _ (s16 _ _ J5.hs))), ⟨_, _, rfl, rfl, _, rfl, s16.trans s17, fun hb => ?_⟩⟩)))
              have := of_decide_eq_true hb
              rw [List.length_map, Paired.length J5.ll] at this
              omega
            · rw [decide_eq_false hk1, if_neg (by simp)]
              exact ⟨s16, fun h => nomatch h⟩
          obtain ⟨s16, hb⟩ := hb
          have J6 := J5.same s16
          clear J5 s15 s16
          cases b with
          | true =>
            rw [if_pos rfl]
            -- redo
            have hb := hb rfl
            rcases List.eq_nil_or_concat us with hus | ⟨us', ⟨e, r⟩, hus⟩
            · rw [hus] at hul; simp at hul; omega
            rw [List.concat_eq_append] at hus
            rw [hus] at J6 hul
            rw [List.length_append, List.length_singleton] at hul
            obtain ⟨b0, hb0⟩ : ∃ b0, L[at_ + 1]? = some b0 := ⟨_, List.getElem?_eq_getElem (by omega)⟩
            have hstp : Stp l b0 (e, r) := J6.lk at_ l b0 (e, r) J6.la hb0 (by rw [List.getElem?_append_right (by omega), hdl]; simp)
            obtain ⟨p1, p2, p3, p4, p5, p6⟩ := hstp
            refine wss_cons (ws_expr (we_meth0 DRe G.cls (hr.mono (by decide)) (we_name 5 g5 ⟨x, dx, _, rfl, J6.ha.hb.hh, rfl, fun E' => ⟨x, dx, sh, kp, dn, un, n, ow, ds, us', l, cs, bs, fl, e, r, rfl, J6.ha, p1, p3, by omega, fun v n' H17 sh' ow' cs' bs' fl' HA' fr' nw' ns' => ?_⟩⟩)))
            have p4 : fin l e.sgl = b0 := p4
            rw [p4] at HA'
            have J7 := J6.meth (k' := at_ + 1) HA' fr' nw' (.inl rfl) hb0 (by simp; omega) (by simp; omega) (by
              have := J6.lk
              simpa using this)
            refine wss_one (ws_set 7 sc_74.nd (SG H17) ((pu_add (pu_var 7) pu_int).to (r' := .d (.int ((at_ + 1 : Nat) : Int))) rfl) fun v7 H18 s18 a18 => ?_)
            cases a18
            exact ⟨by rw [List.length_set]; exact g0, by rw [List.getElem?_set_ne (by decide)]; exact g1, by rw [List.getElem?_set_ne (by decide)]; exact g4, by rw [List.getElem?_set_ne (by decide)]; exact g5, st, sts, L, at_ + 1, sh', un, n', ow', ds ++ [(e, r)], us', b0, cs', bs', fl', by rw [List.getElem?_set_ne (by decide)]; exact g6, List.getElem?_set_self (by omega), by omega, J7.same s18⟩
          | false =>
            rw [if_neg (by decide)]
            -- an edit
            refine wss_cons (ws_asgW (g := g2 K 10 11) (pg_2 10 11 sc_74.nd) ?_)
            refine we_call DE.df (hr.mono (by decide)) (wa_cons (we_name 1 g1 ?_))
            refine wa_cons (we_ixL (we_name 6 g6 (we_pu (SG H16) (pu_var 7) fun v17 H17 s17 a17 => ?_)))
            cases a17
            have J7 := J6.same s17
            clear J6
            obtain ⟨q, eq, lq⟩ := paired_get J7.ll J7.la
            have hqm : q ∈ sts := List.mem_of_getElem? eq
            refine ⟨st, _, ((at_ : Nat) : Int), .ref q, rfl, rfl, J7.hs, atI_nat' (n := at_) (by rw [List.getElem?_map, eq]; rfl) rfl, wa_nil fun E' => ⟨d, il, q, ns, l, rfl, J7.dk, lq, J7.ha.vs, fun T p v e H18 hT im lp hc hl hpq w18 => ?_⟩⟩
            refine ⟨T, _, rfl, SqT.of hT, rfl, v, _, rfl, .ref p, _, rfl, rfl, ?_⟩
            show WSs _ _ _ ((σ9.set 10 (some v)).set 11 (some (V.ref p))) H18
            have J8 := J7.dw w18
            have hpo : p ∉ x :: dn :: un :: ow := by
              rcases hpq with z | z
              · rw [z]; exact J7.off q (.inr (.inr (.inr (.inr hqm))))
              · exact fun hm => J7.ha.own_live _ hm z
            have hpl := ls_some lp
            have h0 : ((σ9.set 10 (some v)).set 11 (some (V.ref p))).length = 12 := by rw [List.length_set, List.length_set]; exact g0
            have h1 : ((σ9.set 10 (some v)).set 11 (some (V.ref p)))[1]? = some (some (V.ref d)) := by rw [List.getElem?_set_ne (by decide), List.getElem?_set_ne (by decide)]; exact g1
            have h4 : ((σ9.set 10 (some v)).set 11 (some (V.ref p)))[4]? = some (some (V.ref hd)) := by rw [List.getElem?_set_ne (by decide), List.getElem?_set_ne (by decide)]; exact g4
            have h5 : ((σ9.set 10 (some v)).set 11 (some (V.ref p)))[5]? = some (some (V.ref x)) := by rw [List.getElem?_set_ne (by decide), List.getElem?_set_ne (by decide)]; exact g5
            have h6 : ((σ9.set 10 (some v)).set 11 (some (V.ref p)))[6]? = some (some (V.ref st)) := by rw [List.getElem?_set_ne (by decide), List.getElem?_set_ne (by decide)]; exact g6
            have h7 : ((σ9.set 10 (some v)).set 11 (some (V.ref p)))[7]? = some (some (V.int (at_ : Nat))) := by rw [List.getElem?_set_ne (by decide), List.getElem?_set_ne (by decide)]; exact g7
            have h10 : ((σ9.set 10 (some v)).set 11 (some (V.ref p)))[10]? = some (some v) := by rw [List.getElem?_set_ne (by decide)]; exact List.getElem?_set_self (by omega)
            have h11 : ((σ9.set 10 (some v)).set 11 (some (V.ref p)))[11]? = some (some (V.ref p)) := List.getElem?_set_self (by rw [List.length_set]; omega)
            generalize (σ9.set 10 (some v)).set 11 (some (V.ref p)) = σ11 at h0 h1 h4 h5 h6 h7 h10 h11
            have SH : ∀ H', Sl H' σ11 ((List.replicate 12 none).set 7 (some (.d (.int (at_ : Nat))))) := fun H' => (sl_none h0).add 7 (r := .d (.int (at_ : Nat))) h7 (.int _)
            -- do
            refine wss_cons (ws_expr (we_meth DDo G.cls (hr.mono (by decide)) (we_name 5 h5 ⟨x, dx, _, rfl, J8.ha.hb.hh, rfl, wa_cons (we_name 10 h10 (wa_nil fun E' => ⟨x, dx, sh, kp, dn, un, n, ow, ds, us, l, cs, bs, fl, e, v, rfl, im, J8.ha, by omega, hc, by omega, fun rv n' H19 sh' un' ow' cs' bs' fl' HA' fr' nw' ns' nu' => ?_⟩))⟩)))
            have t19 : Tx H18 H19 := fr'.tx J8.ha.own_notup
            have lp9 := lp.fr fr' hpo t19
            have dk9 : DK H19 d il ns := by
              obtain ⟨hn, c, p', sd', kk, hp', h1', h2'⟩ := J8.dk
              exact ⟨hn, c, p', sd', kk, hp', fr' _ _ (J8.off d (.inl rfl)) h1', fr' _ _ (J8.off il (.inr (.inl rfl))) h2'⟩
            have hh9 := fr' _ _ (J8.off hd (.inr (.inr (.inl rfl)))) J8.hh
            have hs9 := fr' _ _ (J8.off st (.inr (.inr (.inr (.inl rfl))))) J8.hs
            have ll9 : LL H19 sts L := paired_map J8.ll fun a ha b z => z.fr fr' (J8.off a (.inr (.inr (.inr (.inr ha))))) t19
            have hsl : sts.length = L.length := Paired.length J8.ll
            -- states
            refine wss_cons (ws_setW 6 sc_74.nd (we_op op_cat ?_))
            refine we_slE (we_name 6 h6 (we_pu (SH H19) (pu_add (pu_var 7) pu_int) fun v20 H20 s20 a20 => ?_))
            cases a20
            refine ⟨_, st, _, rfl, rfl, s20 _ _ hs9, fun np hnp => ?_⟩
            rw [cutV_ref sts (at_ + 1) _ (by omega) (by omega)]
            refine we_lst (wa_cons (we_name 11 h11 (wa_nil ⟨by show 1 ≤ sizeLine; decide, fun np2 hnp2 => ?_⟩)))
            have nnp : np ≠ np2 := ne_of_none (H := upd H20 np (.lst ((sts.take (at_ + 1)).map V.ref))) upd_same hnp2
            refine ⟨np, np2, _, _, rfl, rfl, by rw [upd_ne nnp]; exact upd_same, upd_same, ?_, fun st' hst' => ?_⟩
            · rw [List.length_map, List.length_take]
              show min (at_ + 1) sts.length + 1 ≤ sizeLine
              exact Nat.le_trans (show _ ≤ 1000 by omega) (by decide)
            show WSs _ _ _ (σ11.set 6 (some (V.ref st'))) (upd (upd (upd H20 np (.lst ((sts.take (at_ + 1)).map V.ref))) np2 (.lst [.ref p])) st' (.lst ((sts.take (at_ + 1)).map V.ref ++ [.ref p])))
            have sE : Same H19 (upd (upd (upd H20 np (.lst ((sts.take (at_ + 1)).map V.ref))) np2 (.lst [.ref p])) st' (.lst ((sts.take (at_ + 1)).map V.ref ++ [.ref p]))) := ((s20.trans (same_new hnp)).trans (same_new hnp2)).trans (same_new hst')
            have n19 : H19 st' = none := ((s20.trans (same_new hnp)).trans (same_new hnp2)).free hst'
            have hsE : (upd (upd (upd H20 np (.lst ((sts.take (at_ + 1)).map V.ref))) np2 (.lst [.ref p])) st' (.lst ((sts.take (at_ + 1)).map V.ref ++ [.ref p]))) st' = some (.lst ((sts.take (at_ + 1) ++ [p]).map V.ref)) := by rw [upd_same, List.map_append]; rfl
            generalize upd (upd (upd H20 np (.lst ((sts.take (at_ + 1)).map V.ref))) np2 (.lst [.ref p])) st' (.lst ((sts.take (at_ + 1)).map V.ref ++ [.ref p])) = H21 at sE hsE
            have hLt : (L.take (at_ + 1)).length = at_ + 1 := by rw [List.length_take]; omega
            have J9 : LI C CH d il hd x dx kp dn ns H21 st' (sts.take (at_ + 1) ++ [p]) (L.take (at_ + 1) ++ [fin l e.sgl]) (at_ + 1) sh' un' n' ow' (ds ++ [(e, e.inv l)]) [] (fin l e.sgl) cs' bs' fl' := {
              dk := dk9.mono sE
              hh := sE _ _ hh9
              hs := hsE
              ll := LL.mono sE (paired_append (paired_take ll9 (at_ + 1)) (.cons lp9 .nil))
              ha := HA'.mono sE
              la := by rw [List.getElem?_append_right (by omega), hLt]; simp
              dl := by simp; omega
              ul := by simp; omega
              lk := by
                have := Lk.do_ J8.lk hdl J8.la (stp_do J8.ha.vs J8.ha.st (by omega) hc)
                simpa using this
              sd := fun z => by subst z; exact dk9.ne_none.1 n19
              off := fun y hy => by
                rcases hy with z | z | z | z | z
                · subst z; exact J8.out nw' (.inr nu') (J8.off _ (.inl rfl)) (J8.live _ (.inl rfl))
                · subst z; exact J8.out nw' (.inr nu') (J8.off _ (.inr (.inl rfl))) (J8.live _ (.inr (.inl rfl)))
                · subst z; exact J8.out nw' (.inr nu') (J8.off _ (.inr (.inr (.inl rfl)))) (J8.live _ (.inr (.inr (.inl rfl))))
                · subst z; exact fun hm => HA'.own_live _ hm n19
                · rcases List.mem_append.mp z with z | z
                  · have z := List.mem_of_mem_take z
                    exact J8.out nw' (.inr nu') (J8.off _ (.inr (.inr (.inr (.inr z))))) (J8.live _ (.inr (.inr (.inr (.inr z)))))
                  · rw [List.mem_singleton.mp z]; exact J8.out nw' (.inr nu') hpo hpl }
            have i0 : (σ11.set 6 (some (V.ref st'))).length = 12 := by rw [List.length_set]; exact h0
            have i1 : (σ11.set 6 (some (V.ref st')))[1]? = some (some (V.ref d)) := by rw [List.getElem?_set_ne (by decide)]; exact h1
            have i4 : (σ11.set 6 (some (V.ref st')))[4]? = some (some (V.ref hd)) := by rw [List.getElem?_set_ne (by decide)]; exact h4
            have i5 : (σ11.set 6 (some (V.ref st')))[5]? = some (some (V.ref x)) := by rw [List.getElem?_set_ne (by decide)]; exact h5
            have i6 : (σ11.set 6 (some (V.ref st')))[6]? = some (some (V.ref st')) := List.getElem?_set_self (by omega)
            have i7 : (σ11.set 6 (some (V.ref st')))[7]? = some (some (V.int (at_ : Nat))) := by rw [List.getElem?_set_ne (by decide)]; exact h7
            generalize σ11.set 6 (some (V.ref st')) = σ12 at i0 i1 i4 i5 i6 i7
            refine wss_one (ws_set 7 sc_74.nd ((sl_none (H := H21) i0).add 7 (r := .d (.int (at_ : Nat))) i7 (.int _)) ((pu_add (pu_var 7) pu_int).to (r' := .d (.int ((at_ + 1 : Nat) : Int))) rfl) fun v22 H22 s22 a22 => ?_)
            cases a22
            exact ⟨by rw [List.length_set]; exact i0, by rw [List.getElem?_set_ne (by decide)]; exact i1, by rw [List.getElem?_set_ne (by decide)]; exact i4, by rw [List.getElem?_set_ne (by decide)]; exact i5, st', _, _, at_ + 1, sh', un', n', ow', _, [], _, cs', bs', fl', by rw [List.getElem?_set_ne (by decide)]; exact i6, List.getElem?_set_self (by omega), by simp; omega, J9.same s22⟩
      · -- is_kept
        clear g0 g1 g4 g5 g6 g7 g9 SG J hal hdl hul hL
        obtain ⟨g0, g1, g4, g5, st, sts, L, at_, sh, un, n, ow, ds, us, l, cs, bs, fl, g6, g7, hL, J⟩ := hP2
        refine wss_one (ws_ifW (wt_not (wt_val ?_)))
        refine we_callG ⟨DIs.ex⟩ (hr.mono (by decide)) hgd ?_
        refine wa_cons (we_name 5 g5 ?_)
        refine wa_cons (we_ixL (we_name 6 g6 (we_pu ((sl_none (H := H2) g0).add 7 (r := .d (.int (at_ : Nat))) g7 (.int _)) (pu_var 7) fun z H10 s10 a10 => ?_)))
        cases a10
        have J1 := J.same s10
        obtain ⟨q, eq, lq⟩ := paired_get J1.ll J1.la
        refine ⟨st, _, ((at_ : Nat) : Int), .ref q, rfl, rfl, J1.hs, atI_nat' (n := at_) (by rw [List.getElem?_map, eq]; rfl) rfl, wa_nil fun E' => ?_⟩
        refine ⟨x, dx, sh, kp, dn, un, q, n, ow, ds, us, l, cs, bs, fl, rfl, J1.ha, lq, fun H11 s11 => ⟨true, rfl, ?_⟩⟩
        show (if (!true) = true then _ else _)
        rw [if_neg (by decide)]
        exact wss_nil ⟨by omega, g0, g1, g4, g5, st, sts, L, at_, sh, un, n, ow, ds, us, l, cs, bs, fl, g6, g7, hL, J1.same s11⟩
    · -- the end
      obtain ⟨_, e0, e1, e4, e5, st, sts, L, at_, sh, un, n, ow, ds, us, l, cs, bs, fl, e6, e7, hL, I⟩ := hP
      refine wss_one (ws_ret ((sl_none (H := H13) e0).add 4 (r := .l []) e4 ⟨hd, rfl, [], I.hh, .nil⟩) (pu_cmp (op_eqD hu64) (rv_eqL (sh_Ss []) (sh_Ss [])) (by rfl) (pu_var 4) (pun_lst (ds := []) pua_nil).pu) fun v H14 s14 a14 => ?_)
      cases a14
      exact q' _
  -- shape
  refine wss_cons (ws_setW 2 sc_74.nd (we_call DSh.df (hr.mono (by decide)) (wa_cons (we_name 1 rfl (wa_nil fun E' => ⟨d, il, ns, rfl, dk1, fun p l H2 np w2 lp VV lne => ?_⟩)))))
  show WSs _ _ _ [some (.ref a), some (.ref d), some (.ref p), none, none, none, none, none, none, none, none, none] H2
  refine wss_cons (ws_ifW (wt_cmp op_eq (by rfl) (we_pd (k := 1) (d := d) (il := il) (ns := ns) (sl_none rfl) rfl w2.dk (pd_drawP (i := 9) DD.df (hr.mono (by decide)) rfl pu_int (by decide) (by decide)) fun v H3 hv3 w3 => we_pu (sl_none rfl) (pu_int (i := 0)) fun z H4 s4 a4 => ?_)))
  cases a4
  refine ⟨rfl, _, rfl, ?_⟩
  have dk4 := w3.dk.mono s4
  by_cases hc : v = 0
  · have e1 : decide (V.int v = V.int 0) = true := by simp [hc]
    rw [e1, if_pos rfl]
    exact wss_one (ws_setN 2 sc_74.nd (sl_none rfl) (pun_lst (ds := []) pua_nil) fun p5 H5 n5 s5 l5 => main H5 p5 [] (dk4.mono s5) l5 VS.nil)
  · have e1 : decide (V.int v = V.int 0) = false := by simp [hc]
    rw [e1, if_neg (by simp)]
    exact wss_nil (main H4 p l dk4 ((lp.dw w2.dk w3).mono s4) VV)
end
end K47
/-! R6: the end, for a law that asks repr -/
namespace K47
open PySem PySem.Spec PyProof.Rows L2
/-- the law's def, called with the script behind the top -/
theorem law_callG {P : Program} {w : World} {K : PySem.W.Frag} {mg mb : Str → Option Value} {k : Nat} {fa a : Addr} {fd : FuncData} {x : Str} {sp : Sp} {t : Shared} {us : List Value} {ns : List Int} (kin : K.In t.heap) (gns : t.heap.Ns mainGlobals mg) (bns : t.heap.Ns builtinsNs mb)
    (boot : ∀ y : Str, y ≠ "__name__" → mb y = bootBuiltins y) (nol : t.heap.NoLimit) (gens : t.gens = #[]) (obj : t.heap.get? a = some { cls := .type "list", data := .seq us.toArray }) (intsh : IntsAre us ns) (few : ns.length ≤ sizeLine) (room : Room k callerA)
    (F : ∀ base : Heap, K.In base → base.Ns mainGlobals mg → FnG P w K mg base k fa fd [x] sp) (bind : ∀ (s : Shared) (u : Value), BindsTo s fd ⟨[u], []⟩ [(x, u)])
    (want : ∀ H : Hp, SqL K H a (ns.map V.int) → sp [.ref a] H (fun v _ => v = .bl true) fun _ _ _ => False) :
    codeAny (model P w) callerA (.call (.ref fa) ⟨[.ref a], []⟩) (fun r s' => r = .ok (.ret (.bool true)) ∧ OldK t.heap s'.heap ∧ s'.os = t.os ∧ AllBare s'.gens) t := by
  have vals := vals_ints intsh
  have size := intsh.length
  have main : ∀ H : Hp, Only H → SqL K H a (ns.map V.int) → HOk P w H t.heap → (∀ b, H b ≠ none → b = a ∧ K.lookup a = none) →
      codeAny (model P w) callerA (.call (.ref fa) ⟨[.ref a], []⟩) (fun r s' => r = .ok (.ret (.bool true)) ∧ OldK t.heap s'.heap ∧ s'.os = t.os ∧ AllBare s'.gens) t := by
    intro H only sq hok own
    have stays : ∀ {b : Addr} {m : Str → Option Value}, t.heap.Ns b m → (hidT t.heap H).Ns b m := by
      rintro b m ⟨o, es, ep, e, d, r⟩
      refine ⟨o, es, ep, hidT_get e ?_, d, r⟩
      cases q : H b with
      | none => rfl
      | some u =>
        obtain ⟨rfl, _⟩ := own b (by rw [q]; exact fun z => nomatch z)
        rw [obj] at e
        cases e
        have d' : Data.seq us.toArray _ = Data.dict es ep := d
        cases d'
    have kb : K.In (hidT t.heap H) := fun b o e => hidT_get (kin b o e) (by
      cases q : H b with
      | none => rfl
      | some u =>
        obtain ⟨rfl, z⟩ := own b (by rw [q]; exact fun z => nomatch z)
        rw [z] at e; cases e)
    have md : Mod K mg (hidT t.heap H) := ⟨kb, stays gns, ⟨mb, stays bns, boot⟩, nol.imp fun mc z => ⟨stays z.1, z.2⟩⟩
    have env : Env0 P w K mg (hidT t.heap H) callerA [] t H := ⟨rfl, md, fun b o e => of_hidT e, Nat.le_of_eq (hidT_size _ _), trivial, (fun b hb => nomatch (show b ∈ ([] : List Addr) from hb)), hok, .of_eq gens⟩
    refine codeAny_mono ((F _ kb (stays gns)).go callerA [] t H ⟨[.ref a], []⟩ [.ref a] [.ref a] _ _ rfl room env (bind t (.ref a)) (.cons rfl .nil) (want H sq)) fun r s' z => ?_
    cases r with
    | error e => exact z.elim
    | ok fl =>
      cases fl with
      | ret u =>
        obtain ⟨v, H', os, bare, un, hok', rv, ev⟩ := z
        have ev : v = .bl true := ev
        subst ev
        obtain rfl : u = Value.bool true := rv
        refine ⟨rfl, OldK.of_keep fun b o e => ?_, os, bare⟩
        cases q : H b with
        | none => exact un.keep b o e q (fun y => nomatch (show b ∈ ([] : List Addr) from y)) (by simp)
        | some u =>
          rcases only b with y | ⟨ob, xs, y⟩
          · rw [q] at y; cases y
          · obtain ⟨e1, _⟩ := hok b _ y
            obtain ⟨e2, _⟩ := hok' b _ (un.frzs b ob _ y)
            rw [e] at e1
            cases e1
            exact e2
      | next => exact z.elim
      | brk => exact z.elim
      | cont => exact z.elim
  cases lk : K.lookup a with
  | some o =>
    have e := kin a o lk
    rw [obj] at e
    cases e
    exact main (fun _ => none) (fun _ => .inl rfl) (.inr ⟨_, us.toArray, _, lk, rfl, rfl, rfl, by rw [List.size_toArray, size]; exact few, by simpa using vals⟩) (fun b u z => nomatch (show (none : Option HO) = some u from z)) (fun b z => absurd rfl z)
  | none =>
    refine main (fun b => if b = a then some (.frz { cls := .type "list", data := .seq us.toArray } (.lst (ns.map V.int))) else none) (fun b => ?_) (.inl (.inr ⟨_, if_pos rfl⟩)) (fun b u z => ?_) (fun b z => ?_)
    · by_cases h : b = a
      · right; exact ⟨_, _, if_pos h⟩
      · left; exact if_neg h
    · by_cases h : b = a
      · have z' := (if_pos h).symm.trans z
        cases z'
        subst h
        exact ⟨obj, by rw [List.length_map]; exact few, us, _, vals, obj⟩
      · have z' := (if_neg h).symm.trans z
        cases z'
    · by_cases h : b = a
      · exact ⟨h, lk⟩
      · exact absurd (if_neg h) z
/-- the walk's end -/
theorem walk_G {l : PySem.W.OpenLaw} {n k : Nat} {q : Program} {loose : List Str} {XP : (Str → Option Value) → Heap → Prop} {YP : World → Heap → Prop} {d : DefRec} {x : Str} (most : l.most = some n) (few : n ≤ sizeLine) (nodf : d.params.defaults = []) (room : Room k callerA)
    (F : ∀ (w : World) (mg : Str → Option Value) (fa : Addr) (h : Heap), YP w h → h.Ns mainGlobals mg → mg d.name = some (.ref fa) → ∃ (K : PySem.W.Frag) (fd : FuncData) (sp : Sp), K.In h ∧ (∀ (s : Shared) (u : Value), BindsTo s fd ⟨[u], []⟩ [(x, u)]) ∧
      (∀ (H : Hp) (a : Addr) (ns : List Int), SqL K H a (ns.map V.int) → sp [.ref a] H (fun v _ => v = .bl true) fun _ _ _ => False) ∧ ∀ base : Heap, K.In base → base.Ns mainGlobals mg → FnG l.prog w K mg base k fa fd [x] sp) : PySem.W.WalkO q loose XP YP l.row.toRowW d [] (fun f vs => PySem.call f vs) := by
  refine Att.attach_call most nodf fun w s₀ t mg mb fa o pm cd doc a us ns G Y ho hd hcd hmg obj intsh len gens => ?_
  obtain ⟨K, fd, sp, kin, bind, want, fns⟩ := F w mg fa _ Y G.T.g hmg
  exact law_callG kin G.T.g G.T.b G.T.builtins G.T.nolimit gens obj intsh (Nat.le_trans len few) room fns bind fun H => want H a ns
end K47
/-! R7: all promises from what the head tells -/
namespace K47
open PySem PySem.Spec PyProof.Rows L2
section
variable {K : PySem.W.Frag} {w : World} {h : Heap} {mg : Str → Option Value}
theorem st_top (X : K.In h) (G : h.Ns mainGlobals mg) (c : He.SaysX fa fn ts [] ex w h K) {x : Str} {i : Nat} (j k : Nat) (hj : fn[j]? = some ⟨(x, none), x, x, defArgs (top i), defBody (top i), defScope (top i), [], []⟩) (hk : fa[k]? = some (.glo x)) : Stands K mg x i := by
  obtain ⟨fd, F⟩ := c.t.d.def_ j hj
  exact ⟨_, fd, F, He.glo_ok X G (c.t.d.fact k hk)⟩
theorem st_meth (c : He.SaysX fa fn ts [] ex w h K) {C m q : Str} {n p : Nat} (j k : Nat) (hj : fn[j]? = some ⟨(C, some m), m, q, defArgs (inClass (top n) p), defBody (inClass (top n) p), defScope (inClass (top n) p), [], []⟩) (hk : fa[k]? = some (.meth C m)) : StandsM K (He.ga K C) m q n p := by
  obtain ⟨fd, F⟩ := c.t.d.def_ j hj
  exact ⟨_, fd, F, He.meth_ok (c.t.d.fact k hk)⟩
theorem st_init (X : K.In h) (G : h.Ns mainGlobals mg) (c : He.SaysX fa fn ts [] ex w h K) {C q : Str} {n p : Nat} (j k k2 : Nat) (hj : fn[j]? = some ⟨(C, some "__init__"), "__init__", q, defArgs (inClass (top n) p), defBody (inClass (top n) p), defScope (inClass (top n) p), [], []⟩) (hk : fa[k]? = some (.mkr C)) (hk2 : fa[k2]? = some (.glo C)) : StandsI K mg (He.ga K C) C q n p := by
  obtain ⟨fd, F⟩ := c.t.d.def_ j hj
  exact ⟨_, fd, F, He.mkr_ok (c.t.d.fact k hk), He.glo_ok X G (c.t.d.fact k2 hk2)⟩
theorem mg_ok (X : K.In h) (G : h.Ns mainGlobals mg) (c : He.SaysX fa fn ts [] ex w h K) : Mg mg where
  len := He.free_ok X G (c.t.d.fact 49 (f := .free "len") rfl)
  range := He.free_ok X G (c.t.d.fact 50 (f := .free "range") rfl)
  sorted := He.free_ok X G (c.t.d.fact 51 (f := .free "sorted") rfl)
  tuple := He.free_ok X G (c.t.d.fact 52 (f := .free "tuple") rfl)
  list := He.free_ok X G (c.t.d.fact 53 (f := .free "list") rfl)
  dict := He.free_ok X G (c.t.d.fact 54 (f := .free "dict") rfl)
  all := He.free_ok X G (c.t.d.fact 55 (f := .free "all") rfl)
  any := He.free_ok X G (c.t.d.fact 56 (f := .free "any") rfl)
  max := He.free_ok X G (c.t.d.fact 57 (f := .free "max") rfl)
  min := He.free_ok X G (c.t.d.fact 58 (f := .free "min") rfl)
  abs := He.free_ok X G (c.t.d.fact 59 (f := .free "abs") rfl)
  int := He.free_ok X G (c.t.d.fact 60 (f := .free "int") rfl)
  str := He.free_ok X G (c.t.d.fact 61 (f := .free "str") rfl)
  bool := He.free_ok X G (c.t.d.fact 62 (f := .free "bool") rfl)
  isinstance := He.free_ok X G (c.t.d.fact 63 (f := .free "isinstance") rfl)
  enumerate := He.free_ok X G (c.t.d.fact 64 (f := .free "enumerate") rfl)
  zip := He.free_ok X G (c.t.d.fact 65 (f := .free "zip") rfl)
  repr := He.free_ok X G (c.t.d.fact 66 (f := .free "repr") rfl)
  sm := He.int_ok X G (c.t.d.fact 67 (f := .int "SIMPLICES_MOST" 60) rfl)
  vm := He.int_ok X G (c.t.d.fact 68 (f := .int "VERTEX_MOST" 11) rfl)
  vsm := He.int_ok X G (c.t.d.fact 69 (f := .int "VERTICES_MOST" 3) rfl)
  hm := He.int_ok X G (c.t.d.fact 70 (f := .int "HEIGHT_MOST" 1000) rfl)
  em := He.int_ok X G (c.t.d.fact 71 (f := .int "EDITS_MOST" 20) rfl)
theorem kf_ok (c : He.SaysX fa fn ts [] ex w h K) : KF K (He.ga K "Kept") where
  cls := He.cls_ok (c.t.d.fact 72 (f := .cls "Kept") rfl)
  n1 := He.noat_ok (c.t.d.fact 74 (f := .noat "Kept" "_order") rfl)
  n2 := He.noat_ok (c.t.d.fact 75 (f := .noat "Kept" "_chains") rfl)
  n3 := He.noat_ok (c.t.d.fact 76 (f := .noat "Kept" "_bounds") rfl)
  n4 := He.noat_ok (c.t.d.fact 77 (f := .noat "Kept" "_fillers") rfl)
theorem hf_ok (c : He.SaysX fa fn ts [] ex w h K) : HFc K (He.ga K "History") where
  cls := He.cls_ok (c.t.d.fact 78 (f := .cls "History") rfl)
  n1 := He.noat_ok (c.t.d.fact 80 (f := .noat "History" "_shape") rfl)
  n2 := He.noat_ok (c.t.d.fact 81 (f := .noat "History" "_kept") rfl)
  n3 := He.noat_ok (c.t.d.fact 82 (f := .noat "History" "_done") rfl)
  n4 := He.noat_ok (c.t.d.fact 83 (f := .noat "History" "_undone") rfl)
  n5 := He.noat_ok (c.t.d.fact 84 (f := .noat "History" "_swaps") rfl)
theorem lg_ok (X : K.In h) (G : h.Ns mainGlobals mg) (c : He.SaysX fa fn ts [] ex w h K) : Lg K w mg := by
  obtain ⟨es, n, D⟩ := c.t.tab 0 rfl
  have hv : He.valsB K (He.ga K "LENGTHS") [("height", .int 3), ("add", .int 3), ("take", .int 2)] = true := c.more
  obtain ⟨u1, e1, t1, rfl⟩ := He.valsB_ok hv (q := ("height", .int 3)) (by simp)
  obtain ⟨u2, e2, t2, rfl⟩ := He.valsB_ok hv (q := ("add", .int 3)) (by simp)
  obtain ⟨u3, e3, t3, rfl⟩ := He.valsB_ok hv (q := ("take", .int 2)) (by simp)
  exact ⟨He.ga K "LENGTHS", es, n, He.glo_ok X G (c.t.d.fact 48 (f := .glo "LENGTHS") rfl), D, ⟨t1, e1⟩, ⟨t2, e2⟩, t3, e3⟩
end
theorem law_ok {P : Program} {w : World} {K : PySem.W.Frag} {mg : Str → Option Value} {base h : Heap} {f : Addr} {fd : FuncData} (X : K.In h) (G : h.Ns mainGlobals mg) (c : He.SaysX fa fn ts [] ex w h K) (S0 : FnT K "law" "law" (top 74) f fd) : FnG P w K mg base 11 f fd ["_law_script"] (spLaw K) := by
  have M := mg_ok X G c
  have L := lg_ok X G c
  have F := kf_ok c
  have HH := hf_ok c
  have s0 : Stands K mg "is_number" 19 := st_top X G c 0 0 rfl rfl
  have s1 : Stands K mg "is_height" 20 := st_top X G c 1 1 rfl rfl
  have s2 : Stands K mg "is_simplex" 21 := st_top X G c 2 2 rfl rfl
  have s3 : Stands K mg "faces_of" 22 := st_top X G c 3 3 rfl rfl
  have s4 : Stands K mg "check_item" 23 := st_top X G c 4 4 rfl rfl
  have s5 : Stands K mg "check_shape" 24 := st_top X G c 5 5 rfl rfl
  have s6 : Stands K mg "growing_key" 25 := st_top X G c 6 6 rfl rfl
  have s7 : Stands K mg "grown" 26 := st_top X G c 7 7 rfl rfl
  have s8 : Stands K mg "order_of" 27 := st_top X G c 8 8 rfl rfl
  have s9 : Stands K mg "bar_key" 28 := st_top X G c 9 9 rfl rfl
  have s10 : Stands K mg "sorted_bars" 29 := st_top X G c 10 10 rfl rfl
  have s11 : Stands K mg "added" 31 := st_top X G c 11 11 rfl rfl
  have s12 : Stands K mg "last_of" 32 := st_top X G c 12 12 rfl rfl
  have s13 : Stands K mg "boundary" 33 := st_top X G c 13 13 rfl rfl
  have s14 : Stands K mg "bars_by" 35 := st_top X G c 14 14 rfl rfl
  have s15 : Stands K mg "is_single" 39 := st_top X G c 15 15 rfl rfl
  have s16 : Stands K mg "is_several" 40 := st_top X G c 16 16 rfl rfl
  have s17 : Stands K mg "fits" 41 := st_top X G c 17 17 rfl rfl
  have s18 : Stands K mg "can_be_done" 42 := st_top X G c 18 18 rfl rfl
  have s19 : Stands K mg "singles" 43 := st_top X G c 19 19 rfl rfl
  have s20 : Stands K mg "done" 44 := st_top X G c 20 20 rfl rfl
  have s21 : Stands K mg "states" 45 := st_top X G c 21 21 rfl rfl
  have s22 : Stands K mg "edited" 46 := st_top X G c 22 22 rfl rfl
  have s23 : Stands K mg "back" 47 := st_top X G c 23 23 rfl rfl
  have s24 : Stands K mg "inverse" 48 := st_top X G c 24 24 rfl rfl
  have s25 : Stands K mg "can_follow" 50 := st_top X G c 25 25 rfl rfl
  have s26 : Stands K mg "can_swap" 51 := st_top X G c 26 26 rfl rfl
  have s27 : Stands K mg "exchanged" 52 := st_top X G c 27 27 rfl rfl
  have s28 : StandsI K mg (He.ga K "Kept") "Kept" "Kept.__init__" 53 0 := st_init X G c 28 73 46 rfl rfl rfl
  have s29 : StandsM K (He.ga K "Kept") "order" "Kept.order" 53 1 := st_meth c 29 85 rfl rfl
  have s30 : StandsM K (He.ga K "Kept") "chains" "Kept.chains" 53 2 := st_meth c 30 86 rfl rfl
  have s31 : StandsM K (He.ga K "Kept") "pairs" "Kept.pairs" 53 3 := st_meth c 31 87 rfl rfl
  have s32 : StandsM K (He.ga K "Kept") "put" "Kept.put" 53 4 := st_meth c 32 88 rfl rfl
  have s33 : StandsM K (He.ga K "Kept") "drop" "Kept.drop" 53 5 := st_meth c 33 89 rfl rfl
  have s34 : StandsM K (He.ga K "Kept") "swap" "Kept.swap" 53 6 := st_meth c 34 90 rfl rfl
  have s35 : StandsM K (He.ga K "Kept") "_named" "Kept._named" 53 7 := st_meth c 35 91 rfl rfl
  have s36 : StandsM K (He.ga K "Kept") "_add" "Kept._add" 53 8 := st_meth c 36 92 rfl rfl
  have s37 : StandsM K (He.ga K "Kept") "_settle" "Kept._settle" 53 9 := st_meth c 37 93 rfl rfl
  have s38 : StandsI K mg (He.ga K "History") "History" "History.__init__" 55 0 := st_init X G c 38 79 47 rfl rfl rfl
  have s39 : StandsM K (He.ga K "History") "shape" "History.shape" 55 1 := st_meth c 39 94 rfl rfl
  have s40 : StandsM K (He.ga K "History") "pairs" "History.pairs" 55 2 := st_meth c 40 95 rfl rfl
  have s41 : StandsM K (He.ga K "History") "chains" "History.chains" 55 3 := st_meth c 41 96 rfl rfl
  have s42 : StandsM K (He.ga K "History") "bars" "History.bars" 55 4 := st_meth c 42 97 rfl rfl
  have s43 : StandsM K (He.ga K "History") "do" "History.do" 55 5 := st_meth c 43 98 rfl rfl
  have s44 : StandsM K (He.ga K "History") "undo" "History.undo" 55 6 := st_meth c 44 99 rfl rfl
  have s45 : StandsM K (He.ga K "History") "redo" "History.redo" 55 7 := st_meth c 45 100 rfl rfl
  have s46 : StandsM K (He.ga K "History") "_carry" "History._carry" 55 9 := st_meth c 46 101 rfl rfl
  have s47 : StandsM K (He.ga K "History") "_carry_single" "History._carry_single" 55 10 := st_meth c 47 102 rfl rfl
  have s48 : StandsM K (He.ga K "History") "_move" "History._move" 55 11 := st_meth c 48 103 rfl rfl
  have s49 : Stands K mg "_law_deck" 57 := st_top X G c 49 28 rfl rfl
  have s50 : Stands K mg "_law_draw" 58 := st_top X G c 50 29 rfl rfl
  have s51 : Stands K mg "_law_faces" 59 := st_top X G c 51 30 rfl rfl
  have s52 : Stands K mg "_law_simplices" 60 := st_top X G c 52 31 rfl rfl
  have s53 : Stands K mg "_law_sum" 61 := st_top X G c 53 32 rfl rfl
  have s54 : Stands K mg "_law_pairs" 62 := st_top X G c 54 33 rfl rfl
  have s55 : Stands K mg "_law_are_right" 63 := st_top X G c 55 34 rfl rfl
  have s56 : Stands K mg "_law_grown" 64 := st_top X G c 56 35 rfl rfl
  have s57 : Stands K mg "_law_shape" 65 := st_top X G c 57 36 rfl rfl
  have s58 : Stands K mg "_law_bars" 66 := st_top X G c 58 37 rfl rfl
  have s59 : Stands K mg "_law_cofaces" 67 := st_top X G c 59 38 rfl rfl
  have s60 : Stands K mg "_law_single" 68 := st_top X G c 60 39 rfl rfl
  have s61 : Stands K mg "_law_anew" 69 := st_top X G c 61 40 rfl rfl
  have s62 : Stands K mg "_law_good_edit" 70 := st_top X G c 62 41 rfl rfl
  have s63 : Stands K mg "_law_edit" 71 := st_top X G c 63 42 rfl rfl
  have s64 : Stands K mg "_law_same" 72 := st_top X G c 64 43 rfl rfl
  have s65 : Stands K mg "_law_is_kept" 73 := st_top X G c 65 44 rfl rfl
  have s66 : Stands K mg "law" 74 := st_top X G c 66 45 rfl rfl
  have p0 : Df0 P w K mg base "is_number" 1 (spU rNum) := by apply ok_is_number <;> assumption
  have p1 : Df0 P w K mg base "is_height" 2 (spU rHgt) := by apply ok_is_height <;> assumption
  have p2 : Df0 P w K mg base "added" 1 (spU rAdded) := by apply ok_added <;> assumption
  have p3 : Df0 P w K mg base "is_simplex" 2 (spU rSimp) := by apply ok_is_simplex <;> assumption
  have p4 : Df0 P w K mg base "faces_of" 1 (spN rFac) := by apply ok_faces_of <;> assumption
  have p5 : Df0 P w K mg base "growing_key" 1 (spU rKey) := by apply ok_growing_key <;> assumption
  have p6 : Df0 P w K mg base "grown" 3 (spN rGrown) := by apply ok_grown <;> assumption
  have p7 : Df0 P w K mg base "order_of" 4 (spN rOrd) := by apply ok_order_of <;> assumption
  have p8 : Df0 P w K mg base "last_of" 1 (spU rLast) := by apply ok_last_of <;> assumption
  have p9 : Df0 P w K mg base "boundary" 2 (spU rBd) := by apply ok_boundary <;> assumption
  have p10 : Df0 P w K mg base "bar_key" 1 (spU rBKey) := by apply ok_bar_key <;> assumption
  have p11 : Df0 P w K mg base "sorted_bars" 3 (spN rSB) := by apply ok_sorted_bars <;> assumption
  have p12 : Df0 P w K mg base "bars_by" 4 (spN rBars) := by apply ok_bars_by <;> assumption
  have p13 : Df0 P w K mg base "check_item" 3 (spU fun as r => rCI as ∧ r = .d .none) := by apply ok_check_item <;> assumption
  have p14 : Df0 P w K mg base "check_shape" 4 (spU fun as r => rCS as ∧ r = .d .none) := by apply ok_check_shape <;> assumption
  have p15 : Df0 P w K mg base "is_single" 3 (spU rSing) := by apply ok_is_single <;> assumption
  have p16 : Df0 P w K mg base "is_several" 1 (spU rSev) := by apply ok_is_several <;> assumption
  have p17 : Df0 P w K mg base "singles" 2 (spN rSgl) := by apply ok_singles <;> assumption
  have p18 : Df0 P w K mg base "fits" 2 (spU rFits) := by apply ok_fits <;> assumption
  have p19 : Df0 P w K mg base "can_be_done" 4 (spU rCan) := by apply ok_can_be_done <;> assumption
  have p20 : Df0 P w K mg base "done" 5 (spN rDone) := by apply ok_done <;> assumption
  have p21 : Df0 P w K mg base "states" 6 spSt := by apply ok_states <;> assumption
  have p22 : Df0 P w K mg base "edited" 7 (spN rEdd) := by apply ok_edited <;> assumption
  have p23 : Df0 P w K mg base "back" 1 (spU rBack) := by apply ok_back <;> assumption
  have p24 : Df0 P w K mg base "inverse" 7 (spU rInv) := by apply ok_inverse <;> assumption
  have p25 : Df0 P w K mg base "can_follow" 3 (spU rFol) := by apply ok_can_follow <;> assumption
  have p26 : Df0 P w K mg base "can_swap" 2 (spU rSwp) := by apply ok_can_swap <;> assumption
  have p27 : Df0 P w K mg base "exchanged" 1 (spU rExc) := by apply ok_exchanged <;> assumption
  have p28 : Mt P w K mg base (He.ga K "Kept") "order" 1 (spN (rKOrd (He.ga K "Kept"))) := by apply ok_Korder <;> assumption
  have p29 : Mt P w K mg base (He.ga K "Kept") "chains" 1 (spN (rKCh (He.ga K "Kept"))) := by apply ok_Kchains <;> assumption
  have p30 : Mt P w K mg base (He.ga K "Kept") "pairs" 1 (spN (rKPr (He.ga K "Kept"))) := by apply ok_Kpairs <;> assumption
  have p31 : Mt P w K mg base (He.ga K "Kept") "_named" 2 (spNm (He.ga K "Kept")) := by apply ok_Knamed <;> assumption
  have p32 : Mt P w K mg base (He.ga K "Kept") "_add" 2 (spAdd (He.ga K "Kept")) := by apply ok_Kadd <;> assumption
  have p33 : Mt P w K mg base (He.ga K "Kept") "_settle" 3 (spSet (He.ga K "Kept")) := by apply ok_Ksettle <;> assumption
  have p34 : Mt P w K mg base (He.ga K "Kept") "put" 4 (spPut (He.ga K "Kept")) := by apply ok_Kput <;> assumption
  have p35 : Mt P w K mg base (He.ga K "Kept") "drop" 4 (spDrop (He.ga K "Kept")) := by apply ok_Kdrop <;> assumption
  have p36 : Mt P w K mg base (He.ga K "Kept") "swap" 4 (spSwap (He.ga K "Kept")) := by apply ok_Kswap <;> assumption
  have p37 : MkI P w K mg base (He.ga K "Kept") "Kept" 5 (spInit (He.ga K "Kept")) := by apply ok_Kinit <;> assumption
  have p38 : Mt P w K mg base (He.ga K "History") "_move" 5 (spMove (He.ga K "Kept") (He.ga K "History")) := by apply ok_Hmove <;> assumption
  have p39 : Mt P w K mg base (He.ga K "History") "_carry_single" 8 (spC1 (He.ga K "Kept") (He.ga K "History")) := by apply ok_Hc1 <;> assumption
  have p40 : Mt P w K mg base (He.ga K "History") "_carry" 9 (spCar (He.ga K "Kept") (He.ga K "History")) := by apply ok_Hcarry <;> assumption
  have p41 : Mt P w K mg base (He.ga K "History") "do" 10 (spDo (He.ga K "Kept") (He.ga K "History")) := by apply ok_Hdo <;> assumption
  have p42 : Mt P w K mg base (He.ga K "History") "undo" 10 (spUndo (He.ga K "Kept") (He.ga K "History")) := by apply ok_Hundo <;> assumption
  have p43 : Mt P w K mg base (He.ga K "History") "redo" 10 (spRedo (He.ga K "Kept") (He.ga K "History")) := by apply ok_Hredo <;> assumption
  have p44 : Mt P w K mg base (He.ga K "History") "shape" 1 (spLook (He.ga K "Kept") (He.ga K "History") fun l _ _ _ => l.map eTI) := by apply ok_Hshape <;> assumption
  have p45 : Mt P w K mg base (He.ga K "History") "pairs" 2 (spLook (He.ga K "Kept") (He.ga K "History") fun _ _ bs fl => (pairsOf bs fl).map eP) := by apply ok_Hpairs <;> assumption
  have p46 : Mt P w K mg base (He.ga K "History") "chains" 2 (spLook (He.ga K "Kept") (He.ga K "History") fun _ cs _ _ => cs.map eS) := by apply ok_Hchains <;> assumption
  have p47 : Mt P w K mg base (He.ga K "History") "bars" 5 (spLook (He.ga K "Kept") (He.ga K "History") fun l _ bs fl => ((barsOf l (pairsOf bs fl)).mergeSort leB).map eB) := by apply ok_Hbars <;> assumption
  have p48 : MkI P w K mg base (He.ga K "History") "History" 7 (spHI (He.ga K "Kept") (He.ga K "History")) := by apply ok_Hinit <;> assumption
  have p49 : Df0 P w K mg base "_law_faces" 1 (spN rLFac) := by apply ok_lfaces <;> assumption
  have p50 : Df0 P w K mg base "_law_sum" 1 (spN rLSum) := by apply ok_lsum <;> assumption
  have p51 : Df0 P w K mg base "_law_grown" 1 (spN rLGr) := by apply ok_lgrown <;> assumption
  have p52 : Df0 P w K mg base "_law_cofaces" 2 (spN rLCo) := by apply ok_lcof <;> assumption
  have p53 : Df0 P w K mg base "_law_draw" 1 spDraw := by apply ok_ldraw <;> assumption
  have p54 : Df0 P w K mg base "_law_pairs" 2 (spN rLP) := by apply ok_lpairs <;> assumption
  have p55 : Df0 P w K mg base "_law_bars" 3 (spN rLB) := by apply ok_lbars <;> assumption
  have p56 : Df0 P w K mg base "_law_are_right" 2 (spU rLR) := by apply ok_lright <;> assumption
  have p57 : Df0 P w K mg base "_law_single" 3 (spN rLS) := by apply ok_lsingle <;> assumption
  have p58 : Df0 P w K mg base "_law_deck" 1 (spDeck K) := by apply ok_ldeck <;> assumption
  have p59 : Df0 P w K mg base "_law_anew" 2 spAnew := by apply ok_lanew <;> assumption
  have p60 : Df0 P w K mg base "_law_simplices" 2 spSim := by apply ok_lsimplices <;> assumption
  have p61 : Df0 P w K mg base "_law_shape" 3 spShape := by apply ok_lshape <;> assumption
  have p62 : Df0 P w K mg base "_law_good_edit" 3 spGood := by apply ok_lgood <;> assumption
  have p63 : Df0 P w K mg base "_law_edit" 4 spEdit := by apply ok_ledit <;> assumption
  have p64 : DfG P w K mg base "_law_same" 1 (spSame K) := by apply ok_lsame <;> assumption
  have p65 : DfG P w K mg base "_law_is_kept" 6 (spIs (He.ga K "Kept") (He.ga K "History")) := by apply ok_lis <;> assumption
  exact by apply ok_law <;> assumption
end K47
/-! R8: the law -/
open PySem PySem.W PySem.Calls PyProof.Rows
theorem PySem.Challenge.cw_barstay_k47_whole_histories_holds : PySem.Challenge.rw_barstay_k47_whole_histories.Holds := by
  w_on; o_law
  refine HandSHeadRun.head_any (r := K47.RR) (q := view K47.RR.prog [74]) (H := K47.hk) (ob := K47.ob) (M := 8000) (loose := K47.loose) (d := HandSHeadRun.topDef K47.RR.prog 74) (kwd := []) K47.ob_eq
    (by kernel_rfl) (fun s => by kernel_rfl) K47.run_eq (by kernel_rfl) (by kernel_rfl) (by kernel_rfl) (by rfl) (by first | assumption | decide +kernel) (by decide +kernel) ⟨rfl, rfl, rfl, rfl, rfl, by decide +kernel⟩ ?hw ?hc
  case hw => w_witness2
  case hc =>
    refine K47.walk_G (l := PySem.Challenge.rw_barstay_k47_whole_histories) (n := 63) (k := 11) (x := "_law_script") rfl (by decide) (by kernel_rfl) ⟨rfl, by decide, by decide⟩ ?F
    intro w mg fa h Y G hmg0
    obtain ⟨K, KX, c⟩ := Y
    have hmg : mg ("law" : PySem.Str) = some (.ref fa) := by
      have e : (HandSHeadRun.topDef K47.RR.prog 74).name = ("law" : PySem.Str) := by kernel_rfl
      rw [← e]
      exact hmg0
    obtain ⟨fd, FD⟩ := c.t.d.def_ 66 (d := K47.d66) rfl
    have e := hmg.symm.trans (He.glo_ok KX G (c.t.d.fact 45 (f := .glo "law") rfl))
    cases e
    have b := L2.FunD.bindsA (ps := ["_law_script"]) FD fun _ _ _ _ _ _ us hl => match us, hl with | [_], _ => rfl
    exact ⟨K, fd, K47.spLaw K, KX, fun s v => b s [v] rfl, fun H a ns hS => ⟨a, ns, rfl, hS, fun _ => rfl⟩, fun base _ _ => K47.law_ok KX G c FD⟩
