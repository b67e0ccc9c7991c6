import PyProof.Rows.All
import Wide.All
import OpenK.AllK
import Wide.FinOn
import KE.KStateDown
import Lean
import HandS.ForMost
import HandS.More
import HandS.Exc
import HandS.WordsExc
import HandS.Defaults
import HandS.Head0
import HandS.Head1
import HandS.Head2
import HandS.HeadEnd
import HandS.HeadHook1
import HandS.HeadHook2
import HandS.HeadHook3
import HandS.HeadHook4
import PySem.Challenge.RW_toldpaths_k21_whole_line_told
import HandS.DictComp
import HandS.Deep
import HandS.Walk
import HandS.Zip
import HandS.IsInst
import HandS.Style
import HandS.Flow
import HandS.Evl
import HandS.Steps
import HandS.StrMore
import HandS.Replace
import HandS.SortRule
import HandS.SortInts
import HandS.TupLen
import HandS.CallRecv
import HandS.HeadWalk
import HandS.NoneIn
import HandS.Conv
import KE.GoesEnum
import KE.DataMinMax
import KE.SortData
import PyProof.ListStr
import HandS.Codes
import HandS.ReplaceLit
import PyProof.Rows.StrStrike
/-! K21Text -/
section
set_option Elab.async false
set_option linter.all false
set_option maxRecDepth 100000
set_option maxHeartbeats 4000000
/-! the defs by their places, the head's facts (printed by gen_text.py) -/
namespace K21
open PySem PySem.Spec PyProof.Rows L2
def top (i : Nat) : Stmt := PySem.Challenge.pw_toldpaths_k21_whole_line_told.main.body.getD i (.Pass ⟨0, 0, 0, 0⟩)
abbrev s_is_integer : Stmt := top 15
abbrev s_is_list : Stmt := top 16
abbrev s_is_manner : Stmt := top 17
abbrev s_is_rising : Stmt := top 18
abbrev s_parsed : Stmt := top 19
abbrev s_is_path : Stmt := top 20
abbrev s_steps : Stmt := top 21
abbrev s_marks : Stmt := top 22
abbrev s_checked_paths : Stmt := top 30
abbrev s_fits : Stmt := top 39
abbrev s_line_bridges : Stmt := top 40
abbrev s_checked_path : Stmt := top 44
abbrev s_is_letter : Stmt := top 46
abbrev s_is_thing : Stmt := top 47
abbrev s_are_unlike : Stmt := top 48
abbrev s_checked_pairs : Stmt := top 49
abbrev s_checked_things : Stmt := top 50
abbrev s_plan_of : Stmt := top 55
abbrev s_tells_path : Stmt := top 56
abbrev s_is_told : Stmt := top 57
abbrev s_verdict : Stmt := top 58
abbrev s_exchanged : Stmt := top 59
abbrev s_line_stores : Stmt := top 60
abbrev s_law_fresh : Stmt := top 64
abbrev s_law_fill : Stmt := top 65
abbrev s_law_take : Stmt := top 66
abbrev s_law_one : Stmt := top 67
abbrev s_law_same : Stmt := top 68
abbrev s_law_read : Stmt := top 69
abbrev s_law_word : Stmt := top 70
abbrev s_law_marked : Stmt := top 71
abbrev s_law_path : Stmt := top 72
abbrev s_law_fits : Stmt := top 77
abbrev s_law_led : Stmt := top 78
abbrev s_law_is_plan : Stmt := top 80
abbrev s_law_pieces : Stmt := top 81
abbrev s_law_reached : Stmt := top 82
abbrev s_law_fewer : Stmt := top 83
abbrev s_law_crowded : Stmt := top 84
abbrev s_law : Stmt := top 85
abbrev s_Book_init : Stmt := inClass (top 32) 0
abbrev s_Line_init : Stmt := inClass (top 41) 0
abbrev s_Line_leads : Stmt := inClass (top 41) 1
abbrev s_Line_told_plan : Stmt := inClass (top 41) 2
abbrev s_Store_init : Stmt := inClass (top 51) 0
def d_is_integer : He.DefD := ⟨("is_integer", none), "is_integer", "is_integer", defArgs s_is_integer, defBody s_is_integer, defScope s_is_integer, [], []⟩
def d_is_list : He.DefD := ⟨("is_list", none), "is_list", "is_list", defArgs s_is_list, defBody s_is_list, defScope s_is_list, [], []⟩
def d_is_manner : He.DefD := ⟨("is_manner", none), "is_manner", "is_manner", defArgs s_is_manner, defBody s_is_manner, defScope s_is_manner, [], []⟩
def d_is_rising : He.DefD := ⟨("is_rising", none), "is_rising", "is_rising", defArgs s_is_rising, defBody s_is_rising, defScope s_is_rising, [], []⟩
def d_parsed : He.DefD := ⟨("parsed", none), "parsed", "parsed", defArgs s_parsed, defBody s_parsed, defScope s_parsed, [], []⟩
def d_is_path : He.DefD := ⟨("is_path", none), "is_path", "is_path", defArgs s_is_path, defBody s_is_path, defScope s_is_path, [], []⟩
def d_steps : He.DefD := ⟨("steps", none), "steps", "steps", defArgs s_steps, defBody s_steps, defScope s_steps, [], []⟩
def d_marks : He.DefD := ⟨("marks", none), "marks", "marks", defArgs s_marks, defBody s_marks, defScope s_marks, [], []⟩
def d_checked_paths : He.DefD := ⟨("checked_paths", none), "checked_paths", "checked_paths", defArgs s_checked_paths, defBody s_checked_paths, defScope s_checked_paths, [], []⟩
def d_fits : He.DefD := ⟨("fits", none), "fits", "fits", defArgs s_fits, defBody s_fits, defScope s_fits, [], []⟩
def d_line_bridges : He.DefD := ⟨("line_bridges", none), "line_bridges", "line_bridges", defArgs s_line_bridges, defBody s_line_bridges, defScope s_line_bridges, [], []⟩
def d_checked_path : He.DefD := ⟨("checked_path", none), "checked_path", "checked_path", defArgs s_checked_path, defBody s_checked_path, defScope s_checked_path, [], []⟩
def d_is_letter : He.DefD := ⟨("is_letter", none), "is_letter", "is_letter", defArgs s_is_letter, defBody s_is_letter, defScope s_is_letter, [], []⟩
def d_is_thing : He.DefD := ⟨("is_thing", none), "is_thing", "is_thing", defArgs s_is_thing, defBody s_is_thing, defScope s_is_thing, [], []⟩
def d_are_unlike : He.DefD := ⟨("are_unlike", none), "are_unlike", "are_unlike", defArgs s_are_unlike, defBody s_are_unlike, defScope s_are_unlike, [], []⟩
def d_checked_pairs : He.DefD := ⟨("checked_pairs", none), "checked_pairs", "checked_pairs", defArgs s_checked_pairs, defBody s_checked_pairs, defScope s_checked_pairs, [], []⟩
def d_checked_things : He.DefD := ⟨("checked_things", none), "checked_things", "checked_things", defArgs s_checked_things, defBody s_checked_things, defScope s_checked_things, [], []⟩
def d_plan_of : He.DefD := ⟨("plan_of", none), "plan_of", "plan_of", defArgs s_plan_of, defBody s_plan_of, defScope s_plan_of, [], []⟩
def d_tells_path : He.DefD := ⟨("tells_path", none), "tells_path", "tells_path", defArgs s_tells_path, defBody s_tells_path, defScope s_tells_path, [], []⟩
def d_is_told : He.DefD := ⟨("is_told", none), "is_told", "is_told", defArgs s_is_told, defBody s_is_told, defScope s_is_told, [], []⟩
def d_verdict : He.DefD := ⟨("verdict", none), "verdict", "verdict", defArgs s_verdict, defBody s_verdict, defScope s_verdict, [], []⟩
def d_exchanged : He.DefD := ⟨("exchanged", none), "exchanged", "exchanged", defArgs s_exchanged, defBody s_exchanged, defScope s_exchanged, [], []⟩
def d_line_stores : He.DefD := ⟨("line_stores", none), "line_stores", "line_stores", defArgs s_line_stores, defBody s_line_stores, defScope s_line_stores, [], []⟩
def d_law_fresh : He.DefD := ⟨("_law_fresh", none), "_law_fresh", "_law_fresh", defArgs s_law_fresh, defBody s_law_fresh, defScope s_law_fresh, [], []⟩
def d_law_fill : He.DefD := ⟨("_law_fill", none), "_law_fill", "_law_fill", defArgs s_law_fill, defBody s_law_fill, defScope s_law_fill, [], []⟩
def d_law_take : He.DefD := ⟨("_law_take", none), "_law_take", "_law_take", defArgs s_law_take, defBody s_law_take, defScope s_law_take, [], []⟩
def d_law_one : He.DefD := ⟨("_law_one", none), "_law_one", "_law_one", defArgs s_law_one, defBody s_law_one, defScope s_law_one, [], []⟩
def d_law_same : He.DefD := ⟨("_law_same", none), "_law_same", "_law_same", defArgs s_law_same, defBody s_law_same, defScope s_law_same, [], []⟩
def d_law_read : He.DefD := ⟨("_law_read", none), "_law_read", "_law_read", defArgs s_law_read, defBody s_law_read, defScope s_law_read, [], []⟩
def d_law_word : He.DefD := ⟨("_law_word", none), "_law_word", "_law_word", defArgs s_law_word, defBody s_law_word, defScope s_law_word, [], []⟩
def d_law_marked : He.DefD := ⟨("_law_marked", none), "_law_marked", "_law_marked", defArgs s_law_marked, defBody s_law_marked, defScope s_law_marked, [], []⟩
def d_law_path : He.DefD := ⟨("_law_path", none), "_law_path", "_law_path", defArgs s_law_path, defBody s_law_path, defScope s_law_path, [], []⟩
def d_law_fits : He.DefD := ⟨("_law_fits", none), "_law_fits", "_law_fits", defArgs s_law_fits, defBody s_law_fits, defScope s_law_fits, [], []⟩
def d_law_led : He.DefD := ⟨("_law_led", none), "_law_led", "_law_led", defArgs s_law_led, defBody s_law_led, defScope s_law_led, [], []⟩
def d_law_is_plan : He.DefD := ⟨("_law_is_plan", none), "_law_is_plan", "_law_is_plan", defArgs s_law_is_plan, defBody s_law_is_plan, defScope s_law_is_plan, [], []⟩
def d_law_pieces : He.DefD := ⟨("_law_pieces", none), "_law_pieces", "_law_pieces", defArgs s_law_pieces, defBody s_law_pieces, defScope s_law_pieces, [], []⟩
def d_law_reached : He.DefD := ⟨("_law_reached", none), "_law_reached", "_law_reached", defArgs s_law_reached, defBody s_law_reached, defScope s_law_reached, [], []⟩
def d_law_fewer : He.DefD := ⟨("_law_fewer", none), "_law_fewer", "_law_fewer", defArgs s_law_fewer, defBody s_law_fewer, defScope s_law_fewer, [], []⟩
def d_law_crowded : He.DefD := ⟨("_law_crowded", none), "_law_crowded", "_law_crowded", defArgs s_law_crowded, defBody s_law_crowded, defScope s_law_crowded, [], []⟩
def d_law : He.DefD := ⟨("law", none), "law", "law", defArgs s_law, defBody s_law, defScope s_law, [], []⟩
def d_Book_init : He.DefD := ⟨("Book", some "__init__"), "__init__", "Book.__init__", defArgs s_Book_init, defBody s_Book_init, defScope s_Book_init, [], []⟩
def d_Line_init : He.DefD := ⟨("Line", some "__init__"), "__init__", "Line.__init__", defArgs s_Line_init, defBody s_Line_init, defScope s_Line_init, [], []⟩
def d_Line_leads : He.DefD := ⟨("Line", some "leads"), "leads", "Line.leads", defArgs s_Line_leads, defBody s_Line_leads, defScope s_Line_leads, [], []⟩
def d_Line_told_plan : He.DefD := ⟨("Line", some "told_plan"), "told_plan", "Line.told_plan", defArgs s_Line_told_plan, defBody s_Line_told_plan, defScope s_Line_told_plan, [], []⟩
def d_Store_init : He.DefD := ⟨("Store", some "__init__"), "__init__", "Store.__init__", defArgs s_Store_init, defBody s_Store_init, defScope s_Store_init, [.non], []⟩
def fn1 : List He.DefD := [d_is_integer, d_is_list, d_is_manner, d_is_rising, d_parsed, d_is_path, d_steps, d_marks, d_checked_paths, d_fits, d_line_bridges, d_checked_path, d_is_letter, d_is_thing, d_are_unlike, d_checked_pairs, d_checked_things, d_plan_of, d_tells_path, d_is_told, d_verdict, d_exchanged, d_line_stores, d_law_fresh, d_law_fill, d_law_take, d_law_one, d_law_same, d_law_read, d_law_word]
def fn2 : List He.DefD := [d_law_marked, d_law_path, d_law_fits, d_law_led, d_law_is_plan, d_law_pieces, d_law_reached, d_law_fewer, d_law_crowded, d_law, d_Book_init, d_Line_init, d_Line_leads, d_Line_told_plan, d_Store_init]
def fn : List He.DefD := fn1 ++ fn2
def fa0 : List He.Fa := [.glo "is_integer", .glo "is_list", .glo "is_manner", .glo "is_rising", .glo "parsed", .glo "is_path", .glo "steps", .glo "marks", .glo "checked_paths", .glo "fits", .glo "line_bridges", .glo "checked_path", .glo "is_letter", .glo "is_thing", .glo "are_unlike", .glo "checked_pairs"]
def fa1 : List He.Fa := [.glo "checked_things", .glo "plan_of", .glo "tells_path", .glo "is_told", .glo "verdict", .glo "exchanged", .glo "line_stores", .glo "_law_fresh", .glo "_law_fill", .glo "_law_take", .glo "_law_one", .glo "_law_same", .glo "_law_read", .glo "_law_word", .glo "_law_marked", .glo "_law_path"]
def fa2 : List He.Fa := [.glo "_law_fits", .glo "_law_led", .glo "_law_is_plan", .glo "_law_pieces", .glo "_law_reached", .glo "_law_fewer", .glo "_law_crowded", .glo "law", .glo "Book", .glo "Line", .glo "Store", .free "isinstance", .free "str", .free "int", .free "bool", .free "list"]
def fa3 : List He.Fa := [.free "tuple", .free "dict", .free "all", .free "any", .free "len", .free "zip", .free "enumerate", .free "range", .free "sorted", .free "min", .str "SMALL" "abcdefghijklmnopqrstuvwxyz", .str "CAPITAL" "ABCDEFGHIJKLMNOPQRSTUVWXYZ", .str "DIGITS" "0123456789", .glo "MANNERS", .int "MOST_PATHS" 8, .cls "Book"]
def fa4 : List He.Fa := [.mkr "Book", .noat "Book" "manner", .noat "Book" "paths", .cls "Line", .mkr "Line", .noat "Line" "last", .noat "Line" "bridges", .noat "Line" "costs", .noat "Line" "came", .meth "Line" "leads", .meth "Line" "told_plan", .cls "Store", .mkr "Store", .noat "Store" "manner", .noat "Store" "many", .noat "Store" "link_lists"]
def fa5 : List He.Fa := [.noat "Store" "kind_lists"]
def fa : List He.Fa := fa0 ++ (fa1 ++ (fa2 ++ (fa3 ++ (fa4 ++ (fa5)))))
def ex : PySem.W.Frag → Bool := fun K => He.tupB K "MANNERS" [.str "any", .str "matched", .str "turned"]
def loose0 : List Str := ["_wall", "PathError", "BadManner", "BadPath", "BadMany", "BadLink", "BadKind", "BadKept", "BadIndex", "SMALL", "CAPITAL", "DIGITS", "MANNERS", "is_integer", "is_list", "is_manner"]
def loose1 : List Str := ["is_rising", "parsed", "is_path", "steps", "marks", "turned_step", "back_word", "reduced_word", "in_order", "tree_of", "MOST_PATHS", "checked_paths", "checked_indices", "Book", "opposite", "shortened"]
def loose2 : List Str := ["Fold", "parted", "fits", "line_bridges", "Line", "Tree", "checked_path", "is_letter", "is_thing", "are_unlike", "checked_pairs", "checked_things", "Store", "links_of", "kinds_of", "plan_of"]
def loose3 : List Str := ["tells_path", "is_told", "verdict", "exchanged", "line_stores", "tree_stores", "turned_stores", "_law_fresh", "_law_fill", "_law_take", "_law_one", "_law_same", "_law_read", "_law_word", "_law_marked", "_law_path"]
def loose4 : List Str := ["_law_turn", "_law_back", "_law_short", "_law_tree", "_law_fits", "_law_led", "_law_made", "_law_is_plan", "_law_pieces", "_law_reached", "_law_fewer", "_law_crowded"]
def loose : List Str := loose0 ++ (loose1 ++ (loose2 ++ (loose3 ++ (loose4))))
end K21
end

/-! K21Rules -/
section
set_option Elab.async false
set_option linter.all false
set_option maxRecDepth 100000
set_option maxHeartbeats 4000000
/-! constructs that the hand layer has no rule for -/
namespace K21
open PySem PySem.Spec PyProof.Rows L2
abbrev St := L2.St
section
variable {X : Cx}
/-- code that is never reached, as an expression, a test -/
theorem pe_never {e : Expr} : PE X e (fun _ _ _ => False) := ⟨fun _ _ _ _ _ _ h => h.elim⟩
theorem pt_never {e : Expr} : PT X e (fun _ _ _ => False) := ⟨fun _ _ _ _ _ _ h => h.elim⟩
theorem pw_never {e : Expr} : PW X e (fun _ _ _ => False) := ⟨fun _ _ _ _ _ _ _ h => h.elim⟩
/-- xs[i], for xs[i] += e -/
theorem get_list : PGet X (rIxL X.K) := by
  intro pins s σ H o i ov iv Q I ro ri h
  obtain ⟨p, xs, n, z, rfl, rfl, hq, he, q⟩ := h
  cases ro
  obtain ⟨t, rfl⟩ := ri
  obtain ⟨its, r, pl, hz⟩ := I.list hq
  obtain ⟨j, h1, h2, h3, h4, h5⟩ := atI_get he
  obtain ⟨w, ew, rw'⟩ := r.get h2
  have hl := r.length
  have hn := line63
  have done : EP X pins σ Q w s := ⟨z, H, I, rw', q⟩
  by_cases h0 : 0 ≤ n
  · have hj : n.toNat = j := by
      rw [seqIndex_of h0 h5] at h1
      exact Option.some.inj h1
    exact wpAny_getItem_list pl.isList h0 (by omega) (by rw [hj]; simpa using ew) done
  · have hj : (n + (its.toArray.size : Int)).toNat = j := by
      rw [seqIndex_neg (by omega) h4] at h1
      rw [List.size_toArray, ← hl]
      exact Option.some.inj h1
    exact wpAny_getItem_list_neg pl.isList (by omega) (by rw [List.size_toArray] <;> omega) (by omega) (by rw [hj]; simpa using ew) done
/-- text += text, in place -/
def ipS : TIp := fun x y H Q => ∃ i j, x = .str i ∧ y = .str j ∧ i.length + j.length ≤ sizeLine ∧ Q (.str (i ++ j)) H
theorem ip_addS : PIp X .Add ipS := fun pins s σ H x y v u Q I r1 r2 h => iop_add_str pins s σ H x y v u Q I r1 r2 h
/-- list(text) -/
def rListStr : List V → Hp → VK → Prop := fun xs H Q => ∃ z : Str, xs = [.str z] ∧ z.cps.size ≤ sizeLine ∧ ∀ l, H l = none → Q (.ref l) (upd H l (.lst (z.cps.toList.map fun c => .str ⟨#[c]⟩)))
theorem signs_vals {z : Str} : ∀ {acc : Array Value}, ItemsOf (SignAt z) acc z.cps.size → Vals (z.cps.toList.map fun c => V.str ⟨#[c]⟩) acc.toList := by
  intro acc h
  obtain ⟨h1, h2⟩ := h
  have key : ∀ (l : List Nat) (us : List Value), us.length = l.length → (∀ (i : Nat) (u : Value), us[i]? = some u → ∃ c t, l[i]? = some c ∧ u = .str ⟨#[c]⟩ t) → Vals (l.map fun c => V.str ⟨#[c]⟩) us := by
    intro l
    induction l with
    | nil =>
      intro us e _
      cases us with
      | nil => exact .nil
      | cons _ _ => cases e
    | cons c r ih =>
      intro us e hs
      cases us with
      | nil => cases e
      | cons u us =>
        obtain ⟨d, t, e1, e2⟩ := hs 0 u rfl
        have e3 : c = d := Option.some.inj e1
        refine .cons ⟨t, by rw [e2, e3]⟩ (ih us (Nat.succ.inj e) fun i v hv => hs (i + 1) v hv)
  refine key _ _ (by simpa using h1) fun i u hu => ?_
  have hi : acc[i]? = some u := by
    rw [← Array.getElem?_toList]
    exact hu
  have hlt : i < acc.size := by
    obtain ⟨q, _⟩ := Array.getElem?_eq_some_iff.mp hi
    exact q
  obtain ⟨c, t, e1, e2⟩ := h2 i u hi
  exact ⟨c, t, by rw [Array.getElem?_toList]; exact e1, e2⟩
theorem call_listS (hc : X.calm = true) : CallR X (.type "list") rListStr := by
  intro pins s σ H vs us Q I r h
  obtain ⟨z, rfl, hz, q⟩ := h
  obtain ⟨u, rfl, ru⟩ := vals1 r
  obtain ⟨t, rfl⟩ := ru
  refine call_list_str (I.ok.hd hc) z t (fun h' tk acc c kp e hacc => ?_) hz
  refine ⟨.ref s.heap.objs.size, _, I.laid (t' := tk) kp (Nat.le_refl _) (show ObjOk X.prog X.w _ h' _ (.lst (z.cps.toList.map fun c => V.str ⟨#[c]⟩)) from ⟨by rw [List.length_map, Array.length_toList]; exact hz, acc.toList, c, signs_vals hacc, by simpa using e⟩), rfl, q _ (I.hok.fresh (Nat.le_refl _))⟩
end
end K21
end

/-! K21Rules2 -/
section
set_option Elab.async false
set_option linter.all false
set_option maxRecDepth 100000
set_option maxHeartbeats 4000000
/-! zip of two texts, of three lists; enumerate of a tuple; min of two tuples -/
namespace K21
open PySem PySem.Spec PyProof.Rows L2
section
/-- the signs of two texts in new pairs -/
def ItzS (x y : Str) : It :=
  ⟨fun i _ => i < x.cps.size ∧ i < y.cps.size,
    fun i H v H' => ∃ T c d, v = .ref T ∧ H T = none ∧ H' = upd H T (.tup [.str ⟨#[c]⟩, .str ⟨#[d]⟩]) ∧ x.cps[i]? = some c ∧ y.cps[i]? = some d,
    fun i _ => i ≤ x.cps.size ∧ i ≤ y.cps.size ∧ (i = x.cps.size ∨ i = y.cps.size)⟩
theorem turn_zipS {P : Program} {w : World} {K : PySem.W.Frag} {elts : List Expr} {kk : Nat} {tpos : Pos} {x y : Str} {t1 t2 : Tok} {z TI TO i1 i2 : Addr} (D : ZipSep2 z TI TO i1 i2 [i1] [i2]) :
    Turn P w K (.Tuple elts kk tpos) (ItzS x y) [z, TI, TO, i1, i2] z (fun i h => IsZip h z TI TO .none ∧ IsTupOf2 h TI (.ref i1) (.ref i2) ∧ (∃ a b, IsTupOf2 h TO a b) ∧ h.IsStrIter i1 (strIterType x) x t1 i ∧ h.IsStrIter i2 (strIterType y) y t2 i) where
  mem := by simp
  obj := fun i h st c hc => by
    obtain ⟨hz, hTI, ⟨_, _, hTO⟩, ⟨o1, e1, _, d1⟩, ⟨o2, e2, _, d2⟩⟩ := st
    have cs : c = z ∨ c = TI ∨ c = TO ∨ c = i1 ∨ c = i2 := by simpa using hc
    rcases cs with q | q | q | q | q
    · subst q; exact ⟨_, hz, fun v q => nomatch q⟩
    · subst q; exact ⟨_, hTI, fun v q => nomatch q⟩
    · subst q; exact ⟨_, hTO, fun v q => nomatch q⟩
    · subst q; exact ⟨o1, e1, fun v q => by rw [d1] at q; cases q⟩
    · subst q; exact ⟨o2, e2, fun v q => by rw [d2] at q; cases q⟩
  keep := fun i h h' st k => by
    obtain ⟨hz, hTI, ⟨a, b, hTO⟩, ⟨o1, e1, f1⟩, ⟨o2, e2, f2⟩⟩ := st
    exact ⟨k z (by simp) _ hz, k TI (by simp) _ hTI, ⟨a, b, k TO (by simp) _ hTO⟩, ⟨o1, k i1 (by simp) _ e1, f1⟩, ⟨o2, k i2 (by simp) _ e2, f2⟩⟩
  item := by
    intro X hP hw hK hc i pins s σ H E I hf st hg
    subst hP hw hK
    obtain ⟨hz, hTI, ⟨a, b, hTO⟩, s1, s2⟩ := st
    have zl : z < s.heap.objs.size := Heap.lt_size hz
    refine wpAny_pyNext_zipD2_item D (Draws.text (A := X.A.in1) (I.ok.hd hc) i1 x t1) (Draws.text (A := X.A.in1) (I.ok.hd hc) i2 y t2) hz hTI hTO s1 s2 hg.1 hg.2 fun u1 u2 h' tk p1 p2 z' TO' s1' s2' hT hsz hk => ?_
    obtain ⟨c, tc, ec, rfl⟩ := p1
    obtain ⟨d, td, ed, rfl⟩ := p2
    refine ⟨_, rfl, wpAny_letOwnedTupleGo_zip (s := { s with heap := h', toks := tk }) z' fun h2 z2 sb => ?_⟩
    have hT2 : h2.get? s.heap.objs.size = some { cls := .type "tuple", data := .seq #[.str ⟨#[c]⟩ tc, .str ⟨#[d]⟩ td] } := (sb.2 _ (Nat.ne_of_gt zl)).trans hT
    have new : ObjOk X.prog X.w (upd H s.heap.objs.size (.tup [.str ⟨#[c]⟩, .str ⟨#[d]⟩])) h2 s.heap.objs.size (.tup [.str ⟨#[c]⟩, .str ⟨#[d]⟩]) :=
      ⟨by show 2 ≤ sizeLine; decide, [.str ⟨#[c]⟩ tc, .str ⟨#[d]⟩ td], .cons ⟨_, rfl⟩ (.cons ⟨_, rfl⟩ .nil), ⟨_, hT2, rfl, _, rfl⟩⟩
    have I1 : Inv X pins σ (upd H s.heap.objs.size (.tup [.str ⟨#[c]⟩, .str ⟨#[d]⟩])) { s with heap := h2, toks := tk } :=
      I.turnedNew (ch := [z, TI, TO, i1, i2]) (fun e o hb q => (sb.2 e (fun r => hb (by simp [r]))).trans (hk e o (fun r => hb (by simp [r])) (fun r => hb (by simp [r])) (fun r => hb (by simp [r])) (fun r => hb (by simp [r])) q)) hf (Nat.le_refl _) new
    refine ⟨.ref s.heap.objs.size, _, I1, rfl, ⟨_, c, d, rfl, I.hok.fresh (Nat.le_refl _), rfl, ec, ed⟩, ⟨z2, ?_, ⟨_, _, (sb.2 _ D.TOz).trans TO'⟩, ?_, ?_⟩, fun e he => ?_⟩
    · exact (sb.2 _ D.TIz).trans (hk _ _ D.TIz D.TITO D.TIi1 D.TIi2 hTI)
    · obtain ⟨o, e, f⟩ := s1'
      exact ⟨o, (sb.2 _ (Ne.symm D.zi1)).trans e, f⟩
    · obtain ⟨o, e, f⟩ := s2'
      exact ⟨o, (sb.2 _ (Ne.symm D.zi2)).trans e, f⟩
    · have lt : e < s.heap.objs.size := by
        have cs : e = z ∨ e = TI ∨ e = TO ∨ e = i1 ∨ e = i2 := by simpa using he
        obtain ⟨o1, e1, _⟩ := s1
        obtain ⟨o2, e2, _⟩ := s2
        rcases cs with q | q | q | q | q
        · subst q; exact zl
        · subst q; exact Heap.lt_size hTI
        · subst q; exact Heap.lt_size hTO
        · subst q; exact Heap.lt_size e1
        · subst q; exact Heap.lt_size e2
      rw [upd_ne (Nat.ne_of_lt lt)]
      exact (hf e he).1
  done := by
    intro X hP hw hK hc i pins s σ H E I hf st hg
    subst hP hw hK
    obtain ⟨hz, hTI, ⟨a, b, hTO⟩, s1, s2⟩ := st
    exact wpAny_pyNext_zipD2_end D (Draws.text (A := X.A.in1) (I.ok.hd hc) i1 x t1) (Draws.text (A := X.A.in1) (I.ok.hd hc) i2 y t2) hz hTI hTO s1 s2 hg.1 hg.2.1 hg.2.2 fun h' tk hk => ⟨rfl, I.turnedL (ch := [z, TI, TO, i1, i2]) (fun e o hb q =>
      hk e o (fun r => hb (by simp [r])) (fun r => hb (by simp [r])) (fun r => hb (by simp [r])) (fun r => hb (by simp [r])) q) hf⟩
  self := fun A i s Q E st h => wpAny_pyIter_zip st.1 h
def iZipS (ta : TA) : TI := fun σ H R => ta σ H fun vs H1 => ∃ x y, vs = [.str x, .str y] ∧ R (ItzS x y) H1
theorem pi_zipS {X : Cx} {e f : Expr} {ta : TA} {p pos tpos : Pos} {elts : List Expr} {kk : Nat} (hg : Gl X "zip") (hm : X.mg "zip" = none) (ha : PA X [e, f] ta)
    (hs : starEach [e, f] X.env = (false, eval e X.env) :: starEach [f] X.env := by rfl) (hp : (backTo pos (starEach [f] X.env)).any (·.1) = false := by rfl) :
    PI X (.Tuple elts kk tpos) (.Call (.Name "zip" p) [e, f] [] pos) (iZipS ta) := by
  refine ⟨fun pins s σ H R I h => Call_ (ld_blt I hg hm PyProof.Rows.boot_zip (PyProof.Rows.callWith_type1 (thn (ha.run pos pins s σ H _ I h) fun us s1 q => ?_) hs hp))⟩
  obtain ⟨vs, H1, I1, r1, x, y, ex, q⟩ := q
  subst ex
  obtain ⟨u1, u2, rfl, ru1, ru2⟩ : ∃ u1 u2, us = [u1, u2] ∧ RelV (.str x) u1 ∧ RelV (.str y) u2 := by
    cases r1 with
    | cons a b =>
      cases b with
      | cons c d =>
        cases d
        exact ⟨_, _, rfl, a, c⟩
  obtain ⟨t1, rfl⟩ := ru1
  obtain ⟨t2, rfl⟩ := ru2
  refine zip_begins2 (begins_text x t1) (begins_text y t2) trivial trivial fun h' hz hTI hTO h1 h2 hsz hk => wpAny_pyIter_zip hz ?_
  have I2 : Inv X pins σ H1 { s1 with heap := h' } := I1.kept (t' := s1.toks) hk
  refine ⟨s1.heap.objs.size + 4, [s1.heap.objs.size + 4, s1.heap.objs.size + 2, s1.heap.objs.size + 3, s1.heap.objs.size, s1.heap.objs.size + 1], _, _, H1, rfl, I2, turn_zipS (zip_sep2 (fp1 := []) (fp2 := []) (fun _ z => nomatch z) (fun _ z => nomatch z)), ⟨hz, hTI, ⟨_, _, hTO⟩, ⟨_, h1, rfl, rfl⟩, ⟨_, h2, rfl, rfl⟩⟩, fun c hcm => ?_, q⟩
  have le : s1.heap.objs.size ≤ c := by
    have cs : c = s1.heap.objs.size + 4 ∨ c = s1.heap.objs.size + 2 ∨ c = s1.heap.objs.size + 3 ∨ c = s1.heap.objs.size ∨ c = s1.heap.objs.size + 1 := by simpa using hcm
    rcases cs with q | q | q | q | q <;> (rw [q]; first | exact Nat.le_refl _ | exact Nat.le_add_right _ _)
  exact I1.fpOk le (I1.hok.fresh le)
theorem walk_zipS {x y : Str} {n : Nat} (hn : n = min x.cps.size y.cps.size) : Walk (ItzS x y) n (fun _ => True)
    (fun i H v H' => ∃ T c d, v = .ref T ∧ H T = none ∧ H' = upd H T (.tup [.str ⟨#[c]⟩, .str ⟨#[d]⟩]) ∧ x.cps[i]? = some c ∧ y.cps[i]? = some d) := by
  subst hn
  exact ⟨fun i _ hi _ => ⟨by omega, by omega⟩, fun _ _ => ⟨by omega, by omega, by omega⟩, fun _ _ _ _ _ _ h => h⟩
end
section
/-- three lists side by side, in new triples -/
def Itz3 (K : PySem.W.Frag) (a b c : Addr) : It :=
  ⟨fun i H => ∃ (xs ys zs : List V) (x y z : V), SqL K H a xs ∧ SqL K H b ys ∧ SqL K H c zs ∧ xs[i]? = some x ∧ ys[i]? = some y ∧ zs[i]? = some z,
    fun i H v H' => ∃ T x y z, v = .ref T ∧ H T = none ∧ H' = upd H T (.tup [x, y, z]) ∧ (∀ l, SqL K H a l → l[i]? = some x) ∧ (∀ l, SqL K H b l → l[i]? = some y) ∧ ∀ l, SqL K H c l → l[i]? = some z,
    fun i H => ∃ xs ys zs : List V, SqL K H a xs ∧ SqL K H b ys ∧ SqL K H c zs ∧ i ≤ xs.length ∧ i ≤ ys.length ∧ i ≤ zs.length ∧ (i = xs.length ∨ i = ys.length ∨ i = zs.length)⟩
theorem turn_zip3 {P : Program} {w : World} {K : PySem.W.Frag} {elts : List Expr} {kk : Nat} {tpos : Pos} {a b c z TI TO i1 i2 i3 : Addr} (D : ZipSep3 z TI TO i1 i2 i3 [i1, a] [i2, b] [i3, c]) (na : a ≠ i1) (nb : b ≠ i2) (nc : c ≠ i3) :
    Turn P w K (.Tuple elts kk tpos) (Itz3 K a b c) [z, TI, TO, i1, i2, i3] z (fun i h => IsZip h z TI TO .none ∧ IsTupOf3 h TI (.ref i1) (.ref i2) (.ref i3) ∧ (∃ u v w, IsTupOf3 h TO u v w) ∧ h.IsListIter i1 a i ∧ h.IsListIter i2 b i ∧ h.IsListIter i3 c i) where
  mem := by simp
  obj := fun i h st e he => by
    obtain ⟨hz, hTI, ⟨_, _, _, hTO⟩, ⟨o1, e1, _, d1⟩, ⟨o2, e2, _, d2⟩, ⟨o3, e3, _, d3⟩⟩ := st
    have cs : e = z ∨ e = TI ∨ e = TO ∨ e = i1 ∨ e = i2 ∨ e = i3 := by simpa using he
    rcases cs with q | q | q | q | q | q
    · subst q; exact ⟨_, hz, fun v q => nomatch q⟩
    · subst q; exact ⟨_, hTI, fun v q => nomatch q⟩
    · subst q; exact ⟨_, hTO, fun v q => nomatch q⟩
    · subst q; exact ⟨o1, e1, fun v q => by rw [d1] at q; cases q⟩
    · subst q; exact ⟨o2, e2, fun v q => by rw [d2] at q; cases q⟩
    · subst q; exact ⟨o3, e3, fun v q => by rw [d3] at q; cases q⟩
  keep := fun i h h' st k => by
    obtain ⟨hz, hTI, ⟨u, v, w, hTO⟩, s1, s2, s3⟩ := st
    exact ⟨k z (by simp) _ hz, k TI (by simp) _ hTI, ⟨u, v, w, k TO (by simp) _ hTO⟩, s1.at fun o q => k i1 (by simp) o q, s2.at fun o q => k i2 (by simp) o q, s3.at fun o q => k i3 (by simp) o q⟩
  item := by
    intro X hP hw hK hc i pins s σ H E I hf st hg
    subst hP hw hK
    obtain ⟨hz, hTI, ⟨u, v, w, hTO⟩, s1, s2, s3⟩ := st
    obtain ⟨xs, ys, zs, x, y, zz, qx, qy, qz, ex, ey, ez⟩ := hg
    obtain ⟨its1, r1, p1, _⟩ := I.list qx
    obtain ⟨its2, r2, p2, _⟩ := I.list qy
    obtain ⟨its3, r3, p3, _⟩ := I.list qz
    obtain ⟨v1, f1, w1⟩ := r1.get ex
    obtain ⟨v2, f2, w2⟩ := r2.get ey
    obtain ⟨v3, f3, w3⟩ := r3.get ez
    have lt1 : i < its1.toArray.size := by simpa using (List.getElem?_eq_some_iff.mp f1).1
    have lt2 : i < its2.toArray.size := by simpa using (List.getElem?_eq_some_iff.mp f2).1
    have lt3 : i < its3.toArray.size := by simpa using (List.getElem?_eq_some_iff.mp f3).1
    have zl : z < s.heap.objs.size := Heap.lt_size hz
    refine wpAny_pyNext_zipD3_item D (Draws.list (A := X.A.in1) (I.ok.hd hc) i1 a na its1.toArray) (Draws.list (A := X.A.in1) (I.ok.hd hc) i2 b nb its2.toArray) (Draws.list (A := X.A.in1) (I.ok.hd hc) i3 c nc its3.toArray)
      hz hTI hTO ⟨s1, p1.isList⟩ ⟨s2, p2.isList⟩ ⟨s3, p3.isList⟩ lt1 lt2 lt3 fun u1 u2 u3 h' tk g1 g2 g3 z' TO' s1' s2' s3' hT hsz hk => ?_
    obtain rfl : u1 = v1 := by
      have q : its1[i]? = some u1 := by simpa using g1
      rw [f1] at q; exact (Option.some.inj q).symm
    obtain rfl : u2 = v2 := by
      have q : its2[i]? = some u2 := by simpa using g2
      rw [f2] at q; exact (Option.some.inj q).symm
    obtain rfl : u3 = v3 := by
      have q : its3[i]? = some u3 := by simpa using g3
      rw [f3] at q; exact (Option.some.inj q).symm
    refine ⟨_, rfl, wpAny_letOwnedTupleGo_zip (s := { s with heap := h', toks := tk }) z' fun h2 z2 sb => ?_⟩
    have hT2 : h2.get? s.heap.objs.size = some { cls := .type "tuple", data := .seq #[u1, u2, u3] } := (sb.2 _ (Nat.ne_of_gt zl)).trans hT
    have new : ObjOk X.prog X.w (upd H s.heap.objs.size (.tup [x, y, zz])) h2 s.heap.objs.size (.tup [x, y, zz]) :=
      ⟨by show 3 ≤ sizeLine; decide, [u1, u2, u3], .cons w1 (.cons w2 (.cons w3 .nil)), ⟨_, hT2, rfl, _, rfl⟩⟩
    have I1 : Inv X pins σ (upd H s.heap.objs.size (.tup [x, y, zz])) { s with heap := h2, toks := tk } :=
      I.turnedNew (ch := [z, TI, TO, i1, i2, i3]) (fun e o hb q => (sb.2 e (fun r => hb (by simp [r]))).trans (hk e o (fun r => hb (by simp [r])) (fun r => hb (by simp [r])) (fun r => hb (by simp [r])) (fun r => hb (by simp [r])) (fun r => hb (by simp [r])) q)) hf (Nat.le_refl _) new
    refine ⟨.ref s.heap.objs.size, _, I1, rfl, ⟨_, x, y, zz, rfl, I.hok.fresh (Nat.le_refl _), rfl, fun l hl => by rw [I.list_inj hl qx]; exact ex, fun l hl => by rw [I.list_inj hl qy]; exact ey, fun l hl => by rw [I.list_inj hl qz]; exact ez⟩, ⟨z2, ?_, ⟨_, _, _, (sb.2 _ D.TOz).trans TO'⟩, ?_, ?_, ?_⟩, fun e he => ?_⟩
    · exact (sb.2 _ D.TIz).trans (hk _ _ D.TIz D.TITO D.TIi1 D.TIi2 D.TIi3 hTI)
    · exact s1'.1.at fun o q => (sb.2 _ (Ne.symm D.zi1)).trans q
    · exact s2'.1.at fun o q => (sb.2 _ (Ne.symm D.zi2)).trans q
    · exact s3'.1.at fun o q => (sb.2 _ (Ne.symm D.zi3)).trans q
    · have lt : e < s.heap.objs.size := by
        have cs : e = z ∨ e = TI ∨ e = TO ∨ e = i1 ∨ e = i2 ∨ e = i3 := by simpa using he
        obtain ⟨o1, e1, _⟩ := s1
        obtain ⟨o2, e2, _⟩ := s2
        obtain ⟨o3, e3, _⟩ := s3
        rcases cs with q | q | q | q | q | q
        · subst q; exact zl
        · subst q; exact Heap.lt_size hTI
        · subst q; exact Heap.lt_size hTO
        · subst q; exact Heap.lt_size e1
        · subst q; exact Heap.lt_size e2
        · subst q; exact Heap.lt_size e3
      rw [upd_ne (Nat.ne_of_lt lt)]
      exact (hf e he).1
  done := by
    intro X hP hw hK hc i pins s σ H E I hf st hg
    subst hP hw hK
    obtain ⟨hz, hTI, ⟨u, v, w, hTO⟩, s1, s2, s3⟩ := st
    obtain ⟨xs, ys, zs, qx, qy, qz, l1, l2, l3, le⟩ := hg
    obtain ⟨its1, r1, p1, _⟩ := I.list qx
    obtain ⟨its2, r2, p2, _⟩ := I.list qy
    obtain ⟨its3, r3, p3, _⟩ := I.list qz
    have n1 := r1.length
    have n2 := r2.length
    have n3 := r3.length
    exact wpAny_pyNext_zipD3_end D (Draws.list (A := X.A.in1) (I.ok.hd hc) i1 a na its1.toArray) (Draws.list (A := X.A.in1) (I.ok.hd hc) i2 b nb its2.toArray) (Draws.list (A := X.A.in1) (I.ok.hd hc) i3 c nc its3.toArray)
      hz hTI hTO ⟨s1, p1.isList⟩ ⟨s2, p2.isList⟩ ⟨s3, p3.isList⟩ (by simp; omega) (by simp; omega) (by simp; omega) (by simp; omega) fun h' tk hk => ⟨rfl, I.turnedL (ch := [z, TI, TO, i1, i2, i3]) (fun e o hb q =>
      hk e o (fun r => hb (by simp [r])) (fun r => hb (by simp [r])) (fun r => hb (by simp [r])) (fun r => hb (by simp [r])) (fun r => hb (by simp [r])) q) hf⟩
  self := fun A i s Q E st h => wpAny_pyIter_zip st.1 h
def iZip3 (K : PySem.W.Frag) (ta : TA) : TI := fun σ H R => ta σ H fun vs H1 => ∃ a b c xs ys zs, vs = [.ref a, .ref b, .ref c] ∧ SqL K H1 a xs ∧ SqL K H1 b ys ∧ SqL K H1 c zs ∧ R (Itz3 K a b c) H1
theorem pi_zip3 {X : Cx} {e f g : Expr} {ta : TA} {p pos tpos : Pos} {elts : List Expr} {kk : Nat} (hg : Gl X "zip") (hm : X.mg "zip" = none) (ha : PA X [e, f, g] ta)
    (hs : starEach [e, f, g] X.env = (false, eval e X.env) :: starEach [f, g] X.env := by rfl) (hp : (backTo pos (starEach [f, g] X.env)).any (·.1) = false := by rfl) :
    PI X (.Tuple elts kk tpos) (.Call (.Name "zip" p) [e, f, g] [] pos) (iZip3 X.K ta) := by
  refine ⟨fun pins s σ H R I h => Call_ (ld_blt I hg hm PyProof.Rows.boot_zip (PyProof.Rows.callWith_type1 (thn (ha.run pos pins s σ H _ I h) fun us s1 q => ?_) hs hp))⟩
  obtain ⟨vs, H1, I1, r1, a, b, c, xs, ys, zs, ex, qx, qy, qz, q⟩ := q
  subst ex
  obtain rfl : us = [.ref a, .ref b, .ref c] := by
    cases r1 with
    | cons r1 r2 =>
      cases r2 with
      | cons r2 r3 =>
        cases r3 with
        | cons r3 r4 =>
          cases r4
          cases r1
          cases r2
          cases r3
          rfl
  obtain ⟨its1, v1, p1, _⟩ := I1.list qx
  obtain ⟨its2, v2, p2, _⟩ := I1.list qy
  obtain ⟨its3, v3, p3, _⟩ := I1.list qz
  have la := p1.lt
  have lb := p2.lt
  have lc := p3.lt
  refine zip_begins3 (begins_list a its1.toArray) (begins_list b its2.toArray) (begins_list c its3.toArray) p1.isList p2.isList p3.isList fun h' hz hTI hTO h1 h2 h3 hsz hk => wpAny_pyIter_zip hz ?_
  have I2 : Inv X pins σ H1 { s1 with heap := h' } := I1.kept (t' := s1.toks) hk
  have na : a ≠ s1.heap.objs.size := Nat.ne_of_lt la
  have nb : b ≠ s1.heap.objs.size + 1 := Nat.ne_of_lt (Nat.lt_succ_of_lt lb)
  have nc : c ≠ s1.heap.objs.size + 2 := Nat.ne_of_lt (Nat.lt_succ_of_lt (Nat.lt_succ_of_lt lc))
  have one : ∀ {d : Addr}, d < s1.heap.objs.size → ∀ e ∈ [d], e < s1.heap.objs.size := fun hd e he => by
    rw [List.mem_singleton.mp he]; exact hd
  refine ⟨s1.heap.objs.size + 5, [s1.heap.objs.size + 5, s1.heap.objs.size + 3, s1.heap.objs.size + 4, s1.heap.objs.size, s1.heap.objs.size + 1, s1.heap.objs.size + 2], _, _, H1, rfl, I2, turn_zip3 (zip_sep3 (fp1 := [a]) (fp2 := [b]) (fp3 := [c]) (one la) (one lb) (one lc)) na nb nc, ⟨hz, hTI, ⟨_, _, _, hTO⟩, ⟨_, h1, rfl, rfl⟩, ⟨_, h2, rfl, rfl⟩, ⟨_, h3, rfl, rfl⟩⟩, fun c hcm => ?_, q⟩
  have le : s1.heap.objs.size ≤ c := by
    have cs : c = s1.heap.objs.size + 5 ∨ c = s1.heap.objs.size + 3 ∨ c = s1.heap.objs.size + 4 ∨ c = s1.heap.objs.size ∨ c = s1.heap.objs.size + 1 ∨ c = s1.heap.objs.size + 2 := by simpa using hcm
    rcases cs with q | q | q | q | q | q <;> (rw [q]; first | exact Nat.le_refl _ | exact Nat.le_add_right _ _)
  exact I1.fpOk le (I1.hok.fresh le)
theorem walk_zip3 {K : PySem.W.Frag} {a b c : Addr} {xs ys zs : List V} {n : Nat} (hn : n = min xs.length (min ys.length zs.length)) : Walk (Itz3 K a b c) n (fun H => SqL K H a xs ∧ SqL K H b ys ∧ SqL K H c zs)
    (fun i H v H' => ∃ T x y z, v = .ref T ∧ H T = none ∧ H' = upd H T (.tup [x, y, z]) ∧ xs[i]? = some x ∧ ys[i]? = some y ∧ zs[i]? = some z) := by
  subst hn
  refine ⟨fun i _ hi q => ?_, fun _ q => ⟨xs, ys, zs, q.1, q.2.1, q.2.2, by omega, by omega, by omega, by omega⟩, fun i H v H' _ q y => ?_⟩
  · have h1 : i < xs.length := by omega
    have h2 : i < ys.length := by omega
    have h3 : i < zs.length := by omega
    exact ⟨xs, ys, zs, xs[i], ys[i], zs[i], q.1, q.2.1, q.2.2, by simp [h1], by simp [h2], by simp [h3]⟩
  · obtain ⟨T, x, y, z, h1, h2, h3, h4, h5, h6⟩ := y
    exact ⟨T, x, y, z, h1, h2, h3, h4 xs q.1, h5 ys q.2.1, h6 zs q.2.2⟩
end
end K21
end

/-! K21Rules3 -/
section
set_option Elab.async false
set_option linter.all false
set_option maxRecDepth 100000
set_option maxHeartbeats 4000000
/-! enumerate of a tuple; min of two alike data; a dict comprehension whose keys are tuples -/
namespace PySem
set_option maxHeartbeats 1000000 in
theorem k21_enum_new {v : Value} {o : Obj} {G : Heap → Prop} (B : Begins v o G) :
    Meets (Builtin.«enumerate.__new__» ⟨[.type "enumerate", v], []⟩) (fun _ R s => G s.heap ∧ R (.ok (.ret (.ref (s.heap.push o).objs.size)))
      { s with heap := (s.heap.push o).push { cls := .type "enumerate", data := .fields #[.none, .bool false, .ref s.heap.objs.size, rawInt 0, .none, .none] } }) :=
  .of_wp fun prog w A R s h => by
    obtain ⟨hp, g, d, tk, os⟩ := s
    obtain ⟨g1, h⟩ := h
    have hsub := sub_enumerate
    have go : ∀ {A' : Around} {E : Value → Shared → Prop} {Q : Value → Shared → Prop}, Q (.ref hp.objs.size) ⟨hp.push o, g, d, tk, os⟩ → wpAny (model prog w) A' (pyIter v) Q E ⟨hp, g, d, tk, os⟩ := fun q => B.iter prog w _ _ ⟨hp, g, d, tk, os⟩ _ g1 q
    wp_walk using go
    refine wpAny_stack_any fun st => wpAny_pure ?_
    split
    · rename_i c _ _ _ _ _
      cases (c == Value.type "enumerate") <;> (wp_walk using go; exact ⟨_, rfl, h⟩)
    · wp_walk using go
      exact ⟨_, rfl, h⟩
theorem k21_enum_call {prog : Program} {w : World} {A : Around} {E : Value → Shared → Prop} {s : Shared} {v : Value} {o : Obj} {G : Heap → Prop} {Q : Value → Shared → Prop} (B : Begins v o G) (g1 : G s.heap)
    (h : ∀ h', IsEnum h' (s.heap.objs.size + 1) s.heap.objs.size 0 .none → h'.get? s.heap.objs.size = some o → (∀ b o', s.heap.get? b = some o' → h'.get? b = some o') → Q (.ref (s.heap.objs.size + 1)) { s with heap := h' }) :
    wpAny (model prog w) A (call (.type "enumerate") [v]) Q E s := by
  refine callType_new F.called_enumerate (by decide) (F.typeCall_enumerate_1 _) (F.newCall_enumerate_1 _) (fun obj => F.args_object_init_2 obj _) F.entry_enumerate_new (k21_enum_new B) ⟨g1, ?_⟩
  have sz : (s.heap.push o).objs.size = s.heap.objs.size + 1 := Heap.size_push ..
  show _ ∧ _
  rw [sz]
  have en : IsEnum ((s.heap.push o).push { cls := .type "enumerate", data := .fields #[.none, .bool false, .ref s.heap.objs.size, rawInt 0, .none, .none] }) (s.heap.objs.size + 1) s.heap.objs.size 0 .none := by
    have e := Heap.get?_push_size (s.heap.push o) (o := { cls := .type "enumerate", data := .fields #[.none, .bool false, .ref s.heap.objs.size, rawInt 0, .none, .none] }) rfl
    rw [sz] at e
    exact e
  exact ⟨⟨_, en, rfl⟩, h _ en (Heap.get?_push_of_some _ (Heap.get?_push_size _ B.free)) fun b o' e => Heap.get?_push_of_some _ (Heap.get?_push_of_some _ e)⟩
end PySem
namespace K21
open PySem PySem.Spec PyProof.Rows L2
section
/-- a tuple's items with their numbers, in new pairs -/
def IteT (K : PySem.W.Frag) (a : Addr) : It :=
  ⟨fun i H => ∃ (xs : List V) (x : V), SqT K H a xs ∧ xs[i]? = some x,
    fun i H v H' => ∃ T x, v = .ref T ∧ H T = none ∧ H' = upd H T (.tup [.int (i : Nat), x]) ∧ ∀ l, SqT K H a l → l[i]? = some x,
    fun i H => ∃ xs : List V, SqT K H a xs ∧ i = xs.length⟩
theorem turn_enumT {P : Program} {w : World} {K : PySem.W.Frag} {elts : List Expr} {kk : Nat} {tpos : Pos} {a e it : Addr} (ne : e ≠ it) (na : a ≠ it) (nea : e ≠ a) :
    Turn P w K (.Tuple elts kk tpos) (IteT K a) [e, it] e (fun i h => (∃ old, IsEnum h e it ((i : Nat) : Int) old) ∧ h.IsTupleIter it a i) where
  mem := by simp
  obj := fun i h st b hb => by
    obtain ⟨⟨old, he⟩, ⟨o, ho, _, hd⟩⟩ := st
    have cs : b = e ∨ b = it := by simpa using hb
    rcases cs with q | q
    · subst q; exact ⟨_, he, fun v q => nomatch q⟩
    · subst q; exact ⟨o, ho, fun v q => by rw [hd] at q; cases q⟩
  keep := fun i h h' st k => by
    obtain ⟨⟨old, he⟩, hi⟩ := st
    exact ⟨⟨old, k e (by simp) _ he⟩, hi.at fun o q => k it (by simp) o q⟩
  item := by
    intro X hP hw hK hc i pins s σ H E I hf st hg
    subst hP hw hK
    obtain ⟨⟨old, he⟩, hit⟩ := st
    obtain ⟨xs, x, hq, hx⟩ := hg
    obtain ⟨its, rv, p, _⟩ := I.tuple hq
    obtain ⟨u, hu, ru⟩ := rv.get hx
    have lt : i < its.toArray.size := by simpa using (List.getElem?_eq_some_iff.mp hu).1
    have el : e < s.heap.objs.size := Heap.lt_size he
    have il : it < s.heap.objs.size := by
      obtain ⟨_, q, _⟩ := hit
      exact Heap.lt_size q
    refine wpAny_pyNext_enum_itemC (Draws.tuple (A := X.A.in1) (I.ok.hd hc) it a na its.toArray) he ⟨hit, p⟩ lt ne (by simp [ne, nea]) fun y h' tk g out st' hT hsz hk => ?_
    obtain rfl : y = u := by
      have q : its[i]? = some y := by simpa using g
      rw [hu] at q; exact (Option.some.inj q).symm
    refine ⟨_, rfl, wpAny_letOwnedTupleGo_enum (s := { s with heap := h', toks := tk + 1 }) out fun h2 e2 sb => ?_⟩
    have hT2 : h2.get? s.heap.objs.size = some { cls := .type "tuple", data := .seq #[.int i tk, y] } := (sb.2 _ (Nat.ne_of_gt el)).trans hT
    have new : ObjOk X.prog X.w (upd H s.heap.objs.size (.tup [.int (i : Nat), x])) h2 s.heap.objs.size (.tup [.int (i : Nat), x]) :=
      ⟨by show 2 ≤ sizeLine; decide, [.int i tk, y], .cons ⟨_, rfl⟩ (.cons ru .nil), ⟨_, hT2, rfl, _, rfl⟩⟩
    have I1 : Inv X pins σ (upd H s.heap.objs.size (.tup [.int (i : Nat), x])) { s with heap := h2, toks := tk + 1 } :=
      I.turnedNew (ch := [e, it]) (fun b o hb q => (sb.2 b (fun r => hb (by simp [r]))).trans (hk b o (fun r => hb (by simp [r])) (fun r => hb (by simp [r])) q)) hf (Nat.le_refl _) new
    refine ⟨.ref s.heap.objs.size, _, I1, rfl, ⟨_, x, rfl, I.hok.fresh (Nat.le_refl _), rfl, fun l hl => by rw [I.tuple_inj hl hq]; exact hx⟩, ⟨⟨y, ?_⟩, st'.1.at fun o q => (sb.2 it (Ne.symm ne)).trans q⟩, fun b hb => ?_⟩
    · have c1 : ((i + 1 : Nat) : Int) = (i : Int) + 1 := by omega
      rw [c1]
      exact e2
    · have lb : b < s.heap.objs.size := by
        have cs : b = e ∨ b = it := by simpa using hb
        rcases cs with q | q
        · subst q; exact el
        · subst q; exact il
      rw [upd_ne (Nat.ne_of_lt lb)]
      exact (hf b hb).1
  done := by
    intro X hP hw hK hc i pins s σ H E I hf st hg
    subst hP hw hK
    obtain ⟨⟨old, he⟩, hit⟩ := st
    obtain ⟨xs, hq, hx⟩ := hg
    obtain ⟨its, rv, p, _⟩ := I.tuple hq
    obtain ⟨f0, f1, f2, f3, f4, f5⟩ := hf it (by simp)
    have hl := rv.length
    have ei : i = its.toArray.size := by simp; omega
    subst ei
    exact wpAny_pyNext_enum_endD (Draws.tuple (A := X.A.in1) (I.ok.hd hc) it a na its.toArray) he ⟨hit, p⟩ fun h' eb => ⟨rfl, I.turned (t' := s.toks) (fun b o hb q => eb b o hb q) f0 f1 f3 f4 f5⟩
  self := fun A i s Q E st h => by
    obtain ⟨⟨_, he⟩, _⟩ := st
    exact wpAny_pyIter_enum he h
def iEnumT (K : PySem.W.Frag) (ta : TA) : TI := fun σ H R => ta σ H fun vs H1 => ∃ a xs, vs = [.ref a] ∧ SqT K H1 a xs ∧ R (IteT K a) H1
theorem pi_enumT {X : Cx} {e : Expr} {ta : TA} {p pos tpos : Pos} {elts : List Expr} {kk : Nat} (hg : Gl X "enumerate") (hm : X.mg "enumerate" = none) (ha : PA X [e] ta) (hs : starEach [e] X.env = [(false, eval e X.env)] := by rfl) :
    PI X (.Tuple elts kk tpos) (.Call (.Name "enumerate" p) [e] [] pos) (iEnumT X.K ta) := by
  refine ⟨fun pins s σ H R I h => Call_ (ld_blt I hg hm boot_enumerate (PyProof.Rows.callWith_type1 (thn (ha.run pos pins s σ H _ I h) fun us s1 q => ?_) hs rfl))⟩
  obtain ⟨vs, H1, I1, r1, a, xs, ex, hq, q⟩ := q
  subst ex
  obtain rfl : us = [.ref a] := by
    cases r1 with
    | cons r1 r2 =>
      cases r2
      cases r1
      rfl
  obtain ⟨its, rv, p1, _⟩ := I1.tuple hq
  have la : a < s1.heap.objs.size := p1.lt
  refine k21_enum_call (begins_tuple a its.toArray) p1 fun h' he hit hk => wpAny_pyIter_enum he ?_
  have I2 : Inv X pins σ H1 { s1 with heap := h' } := I1.kept (t' := s1.toks) hk
  have n1 : s1.heap.objs.size + 1 ≠ a := Nat.ne_of_gt (Nat.lt_succ_of_lt la)
  refine ⟨s1.heap.objs.size + 1, [s1.heap.objs.size + 1, s1.heap.objs.size], _, _, H1, rfl, I2, turn_enumT (a := a) (Nat.succ_ne_self _) (Nat.ne_of_lt la) n1, ⟨⟨.none, he⟩, ⟨_, hit, rfl, rfl⟩⟩, fun b hb => ?_, q⟩
  have le : s1.heap.objs.size ≤ b := by
    have cs : b = s1.heap.objs.size + 1 ∨ b = s1.heap.objs.size := by simpa using hb
    rcases cs with q | q <;> (rw [q]; first | exact Nat.le_refl _ | exact Nat.le_add_right _ _)
  exact I1.fpOk le (I1.hok.fresh le)
theorem walk_enumT {K : PySem.W.Frag} {a : Addr} {xs : List V} : Walk (IteT K a) xs.length (fun H => SqT K H a xs)
    (fun i H v H' => ∃ T x, v = .ref T ∧ H T = none ∧ H' = upd H T (.tup [.int (i : Nat), x]) ∧ xs[i]? = some x) :=
  ⟨fun i _ hi q => ⟨xs, xs[i], q, by simp [hi]⟩, fun _ q => ⟨xs, q, rfl⟩, fun i H v H' _ q y => by
    obtain ⟨T, x, h1, h2, h3, h4⟩ := y
    exact ⟨T, x, h1, h2, h3, h4 xs q⟩⟩
end
/-! ### min([t, u]) -/
section
variable {X : Cx}
def rMin2 (K : PySem.W.Frag) : List V → Hp → VK → Prop := fun vs H Q => ∃ (l : Addr) (x y : V) (d e : PyData), vs = [.ref l] ∧ SqL K H l [x, y] ∧ Dp K H x d ∧ Dp K H y e ∧ PySem.W.AlikeAll [d, e] ∧ PyData.depthAll [d, e] ≤ 60 ∧ Q (if PySem.W.dataLt e d = true then y else x) H
theorem call_min2D (hc : X.calm = true) (hu : X.A.units + 64 < cLine) : CallR X (.builtin "min") (rMin2 X.K) := by
  intro pins s σ H vs us Q I r h
  obtain ⟨l, x, y, d, e, rfl, hl, hd, he, al, dp, q⟩ := h
  obtain ⟨its, rv, pl, _⟩ := I.list hl
  obtain ⟨u, rfl, ru⟩ := vals1 r
  cases ru
  obtain ⟨u1, u2, rfl, r1, r2⟩ : ∃ u1 u2, its = [u1, u2] ∧ RelV x u1 ∧ RelV y u2 := by
    cases rv with
    | cons a b =>
      cases b with
      | cons c f =>
        cases f
        exact ⟨_, _, rfl, a, c⟩
  obtain ⟨as, rs⟩ := Dp.readsAll I [d, e] [x, y] [u1, u2] (.cons hd (.cons he .nil)) (.cons r1 (.cons r2 .nil))
  refine call_min_walkH (PySem.W.iter_listW (A := X.A.in1) (I.ok.hd hc) pl.isList fun s₂ e2 W st hfp hw hk => ?_)
  refine ⟨_, _, _, _, _, _, _, s.heap, _, rfl, W, st, hfp, by simp, hw, hk, PySem.W.cmpIn_lt (A := X.A.in1) (xs := [d, e]) rs al (by show X.A.units + 1 + _ < _; omega), fun v s' hP m => ?_⟩
  obtain ⟨h', tk, rfl, hk'⟩ := PySem.W.moved_old e2 rfl m
  have pick : RelV (if PySem.W.dataLt e d = true then y else x) v := by
    cases b : PySem.W.dataLt e d with
    | true =>
      have q1 : argBest (fun i j => PySem.W.dataLt ([d, e].getD i .none) ([d, e].getD j .none)) 1 = 1 := by
        show (if PySem.W.dataLt e d = true then 1 else 0) = 1
        rw [b] <;> rfl
      have q2 : #[u1, u2][argBest (fun i j => PySem.W.dataLt ([d, e].getD i .none) ([d, e].getD j .none)) 1]? = some v := hP
      rw [q1] at q2
      obtain rfl : u2 = v := Option.some.inj q2
      exact r2
    | false =>
      have q1 : argBest (fun i j => PySem.W.dataLt ([d, e].getD i .none) ([d, e].getD j .none)) 1 = 0 := by
        show (if PySem.W.dataLt e d = true then 1 else 0) = 0
        rw [b] <;> rfl
      have q2 : #[u1, u2][argBest (fun i j => PySem.W.dataLt ([d, e].getD i .none) ([d, e].getD j .none)) 1]? = some v := hP
      rw [q1] at q2
      obtain rfl : u1 = v := Option.some.inj q2
      exact r1
  exact ⟨_, H, I.kept hk', pick, q⟩
end
end K21
end

/-! K21Rules4 -/
section
set_option Elab.async false
set_option linter.all false
set_option maxRecDepth 100000
set_option maxHeartbeats 4000000
/-! {k: v for ..} whose keys are tuples of ints and texts -/
namespace K21
open PySem PySem.Spec PyProof.Rows L2
section
variable {X : Cx}
theorem dictSetT {pins : List (Addr × Obj)} {σ : St} {H : Hp} {s : Shared} {E : Value → Shared → Prop} {D b : Addr} {kvs : List (List Key × V)} {k : List Key} {v : V} {r : Value} {Q : Unit → Shared → Prop} (hu : X.A.units < cLine)
    (I : Inv X pins σ H s) (hD : H D = some (.dT kvs)) (hz : kvs.length < sizeLine) (hb : H b = some (.tup (k.map kV))) (rv : RelV v r) (h : ∀ s', Inv X pins σ (upd H D (.dT (putK kvs k v))) s' → Q () s') :
    wpAny (model X.prog X.w) X.A (dictSet D (.ref b) r) Q E s := by
  obtain ⟨z, nd, xs, rel, dd⟩ := dt_of I.hok hD
  have z2 : xs.length ≤ sizeLine := by
    rw [← Paired.length rel]
    exact z
  have z3 : (putK kvs k v).length ≤ sizeLine := by
    have := length_putK kvs k v
    omega
  refine wpAny_dictSet_heap (hsz := z2) hu (key_of I.hok hb) dd fun h' dd' hs => h _ ?_
  obtain ⟨q, es, ep, hq, h2, h3, h4, _, h5⟩ := dd'
  refine d_write I (by rw [hD]; exact True.intro) hs ⟨q, hq⟩ ⟨z3, nd, _, (rel.put k hb rv).keeps fun c ys ec => ?_, q, es, ep, hq, h2, h3, h4, h5⟩
  rw [upd_ne (ne_of ec hD fun y => nomatch y)]
  exact ec
def tDcT (wi : TI) (g : TG) (tt : TT) (tk tv : TE) (vs : List Nat) : TE := fun σ H Q => wi σ H fun J H1 => ∀ D, H1 D = none → ∃ W : Nat → Nat → Hp → Prop, (∃ m, W 0 m (upd H1 D (.dT []))) ∧ ∀ i m H, W i m H →
  (J.stop i H ∧ Q (.ref D) H) ∨ (J.go i H ∧ ∃ Nx : Hp → Prop, (∀ H', Nx H' → ∃ m', m' < m ∧ W (i + 1) m' H') ∧ ∀ x H', J.yld i H x H' → g x (wipe σ vs) H' fun σ2 H2 => wipe σ2 vs = wipe σ vs ∧ tt σ2 H2 fun b H3 =>
    if b = true then tk σ2 H3 fun y H4 => tv σ2 H4 fun z H5 => ∃ kvs k c, y = .ref c ∧ H5 c = some (.tup (k.map kV)) ∧ H5 D = some (.dT kvs) ∧ kvs.length < sizeLine ∧ Nx (upd H5 D (.dT (putK kvs k z))) else Nx H3)
theorem pe_dcT {kx vx tg iter : Expr} {ifs : List Expr} {scope : Scope} {own : List (Str × Nat)} {pos : Pos} {wi : TI} {g : TG} {tt : TT} {tk tv : TE} (hc : X.calm = true) (hu : X.A.units < cLine) (hN : X.N.Nodup) (hi : PI X tg iter wi) (ok : BlkOk X.N X.env.scope scope own)
    (hg : ∀ (s : Shared) (H : Hp) (C : Addr) (cl : List (Str × Addr)) (fp : List Addr), PG (X.blk s H scope (compEnvC scope cl C X.env) fp) tg g)
    (ht : ∀ (s : Shared) (H : Hp) (C : Addr) (cl : List (Str × Addr)) (fp : List Addr), PTs (X.blk s H scope (compEnvC scope cl C X.env) fp) ifs tt)
    (hk : ∀ (s : Shared) (H : Hp) (C : Addr) (cl : List (Str × Addr)) (fp : List Addr), PE (X.blk s H scope (compEnvC scope cl C X.env) fp) kx tk)
    (hv : ∀ (s : Shared) (H : Hp) (C : Addr) (cl : List (Str × Addr)) (fp : List Addr), PE (X.blk s H scope (compEnvC scope cl C X.env) fp) vx tv) (hs : ∀ x, foldedSetIterable iter X.env x = pure x := by intro _; rfl) :
    PE X (.DictComp kx vx [⟨tg, iter, ifs, 0⟩] scope pos) (tDcT wi g tt tk tv (own.map (·.2))) := by
  refine ⟨fun pins s σ H Q I h => ?_⟩
  rw [arm_eval_DictComp]
  have caught : ∀ y ∈ scope.names, y.2 = .free → ∃ c, X.env.cells.lookup y.1 = some c := fun y hy e => (ok.free y hy e).elim (fun k => I.ok.has _ (.inl k)) fun k => I.ok.has _ (.inr k)
  refine wpAny_comprehension_free rfl hs (closure_ok caught) ok.kind (fun y hy e => by rw [ok.uniq y hy, e]) (thn (hi.run pins s σ H _ I h) fun _ s1 h1 => thn h1 fun _ s2 h2 => ?_)
  obtain ⟨it, fp, tn, J, H2, rfl, I2, T, st2, f2, q⟩ := h2
  refine wpAny_newObj_type (newEnv_comp ?_)
  generalize eD : s2.heap.objs.size = D
  have freeD : H2 D = none := I2.hok.fresh (Nat.le_of_eq eD)
  obtain ⟨W, ⟨m0, w0⟩, turn⟩ := q D freeD
  generalize es3 : ({ s2 with heap := s2.heap.push { cls := .type "dict", data := .dict #[] } } : Shared) = s3
  have I3 : Inv X pins σ (upd H2 D (.dT [])) s3 := by
    rw [← es3]
    refine I2.laid (t' := s2.toks) (fun b o e => Heap.get?_push_of_some _ e) (Nat.le_of_eq eD) ?_
    rw [← eD]
    exact dt_empty s2.heap I2.big
  have e3 : s3.heap = s2.heap.push { cls := .type "dict", data := .dict #[] } := by rw [← es3]
  have below : ∀ b ∈ fp, b < s2.heap.objs.size := fun b hb => by
    obtain ⟨o, e, _⟩ := T.obj _ _ st2 b hb
    exact Heap.lt_size e
  have f3 : ∀ b ∈ fp, FpOk X pins (upd H2 D (.dT [])) b ∧ b < s3.heap.objs.size := fun b hb => by
    have lt := below b hb
    refine ⟨⟨?_, (f2 b hb).2⟩, by rw [e3, Heap.size_push]; exact Nat.lt_succ_of_lt lt⟩
    rw [upd_ne (by rw [← eD]; exact Nat.ne_of_lt lt)]
    exact (f2 b hb).1
  have st3 : tn 0 s3.heap := T.keep _ _ _ st2 fun b _ o e => by
    rw [e3]
    exact Heap.get?_push_of_some _ e
  have I4 := block_start I3 ok hN f3
  generalize eH3 : upd H2 D (.dT []) = H3 at I3 I4 w0 f3
  generalize ecl : cellsFrom (s3.heap.objs.size + 1) scope.names (cloFrom X.env.cells scope.names []) = cl at I4 ⊢
  have pg := hg s3 H3 s3.heap.objs.size cl fp
  have pt := ht s3 H3 s3.heap.objs.size cl fp
  have pk := hk s3 H3 s3.heap.objs.size cl fp
  have pv := hv s3 H3 s3.heap.objs.size cl fp
  show codeAny _ _ (.compStart (.DictComp kx vx [⟨tg, iter, ifs, 0⟩] scope pos) 0 (.ref it) (.ref D) (compEnvC scope cl s3.heap.objs.size X.env)) (compPost (model X.prog X.w) X.A X.xe none _ (.ref D) s3.heap.objs.size) { s3 with heap := pushCells (s3.heap.push { cls := .type "dict", data := .dict #[] }) scope.names }
  have nofp : ∀ b ∈ fp, H3 b = none := fun b hb => (f3 b hb).1.1
  generalize ece : compEnvC scope cl s3.heap.objs.size X.env = ce at I4 pg pt pk pv ⊢
  have eL : ce.locals = s3.heap.objs.size := by
    subst ece
    rfl
  generalize es4 : ({ s3 with heap := pushCells (s3.heap.push { cls := .type "dict", data := .dict #[] }) scope.names } : Shared) = s4 at I4 ⊢
  have st4 : tn 0 s4.heap := T.keep _ _ _ st3 fun b _ o e => by
    rw [← es4]
    exact pushCells_keeps _ _ _ _ (Heap.get?_push_of_some _ e)
  have fpb : ∀ {σ' : St} {H' : Hp} {s' : Shared}, Inv (X.blk s3 H3 scope ce fp) [] σ' H' s' → (∀ b ∈ fp, H' b = none) → ∀ b ∈ fp, FpOk (X.blk s3 H3 scope ce fp) [] H' b := fun {σ' H' s'} I' n b hb =>
    ⟨n b hb, (I'.ok.exf b hb).1, I'.ok.exfs b hb, .inl hb, fun x c e => (I'.ok.exf b hb).2 x c e, fun p hp => absurd (show p ∈ ([] : List (Addr × Obj)) ++ [] from hp) (by simp)⟩
  have loop : codeAny (model X.prog X.w) X.A (.compLoop (.DictComp kx vx [⟨tg, iter, ifs, 0⟩] scope pos) 0 (.ref it) (.ref D) ce) (compPost (model X.prog X.w) X.A X.xe none (EP X pins σ Q) (.ref D) s3.heap.objs.size) s4 := by
    refine compLoop_anyD (fun n s' => ∃ i H', Inv (X.blk s3 H3 scope ce fp) [] (wipe σ (own.map (·.2))) H' s' ∧ tn i s'.heap ∧ (∀ b ∈ fp, H' b = none) ∧ W i n H') ?_ m0 ⟨0, H3, I4, st4, nofp, w0⟩
    rintro n s5 ⟨i, H5, I5, st5, n5, w5⟩
    rcases turn i n H5 w5 with ⟨stop, fin⟩ | ⟨go, Nx, back, step⟩
    · refine thnF (T.done (X.blk s3 H3 scope ce fp) rfl rfl rfl hc i [] s5 _ H5 (fun _ _ => False) I5 (fpb I5 n5) st5 stop) fun r s6 ⟨hr, I6⟩ => ?_
      subst hr
      have I7 : Inv X pins σ H5 s6 := I3.call' (ch := fp) I6.os I6.base I6.hok I6.bare fun b hb => ⟨(f3 b hb).1.2.2.2.1, (f3 b hb).1.2.1, (f3 b hb).1.2.2.2.2.1, (f3 b hb).1.2.2.2.2.2⟩
      have freeL : H5 s3.heap.objs.size = none := by
        have y : H5 ce.locals = none := I6.free
        rwa [eL] at y
      obtain ⟨m, hn, _⟩ := I6.loc
      have hn : s6.heap.Ns ce.locals m := hn
      rw [eL] at hn
      refine ⟨m, hn, fun h'' sb => ?_⟩
      obtain ⟨g0, g1, g2, g3, g4, g5⟩ := I3.fpOk (Nat.le_refl _) freeL
      exact ⟨.ref D, H5, I7.turned (t' := s6.toks) (fun b o hb e => (sb.2 b hb).trans e) g0 g1 g3 g4 g5, rfl, fin⟩
    · refine thnF (T.item (X.blk s3 H3 scope ce fp) rfl rfl rfl hc i [] s5 _ H5 (fun _ _ => False) I5 (fpb I5 n5) st5 go) fun r s6 ⟨u, hr, h6⟩ => ?_
      subst hr
      refine thnF h6 fun _ s7 ⟨x, H7, I7, r7, y7, st7, n7⟩ => ?_
      have I7p := I7.pinned (fpb I7 n7) (T.obj _ _ st7)
      refine thnF (pg.run _ s7 _ H7 x u _ I7p r7 (step x H7 y7)) fun _ s8 ⟨σ8, H8, I8, hw8, q8⟩ => ?_
      refine thnF (pt.run _ s8 σ8 H8 _ I8 q8) fun b s9 ⟨H9, I9, q9⟩ => ?_
      have close : ∀ {s' : Shared} {H' : Hp}, Inv (X.blk s3 H3 scope ce fp) ([] ++ pinsAt fp s7.heap) σ8 H' s' → Nx H' → ∃ m, m < n ∧ ∃ i H', Inv (X.blk s3 H3 scope ce fp) [] (wipe σ (own.map (·.2))) H' s' ∧ tn i s'.heap ∧ (∀ b ∈ fp, H' b = none) ∧ W i m H' := fun {s' H'} I' nx => by
        obtain ⟨m', hm, w'⟩ := back H' nx
        have held : ∀ b ∈ fp, ∀ o, s7.heap.get? b = some o → s'.heap.get? b = some o ∧ H' b = none := fun b hb o e =>
          ⟨(I'.pin (b, o) (List.mem_append_right _ (List.mem_append_right _ (mem_pinsAt hb e)))).1, (I'.pin (b, o) (List.mem_append_right _ (List.mem_append_right _ (mem_pinsAt hb e)))).2.1⟩
        have same : (wipe σ (own.map (·.2))).length = σ8.length := by rw [← hw8, wipe_length]
        refine ⟨m', hm, i + 1, H', (I'.unpinned (pins := [])).weak same (fun j v e => ?_), T.keep _ _ _ st7 fun b hb o e => (held b hb o e).1, fun b hb => ?_, w'⟩
        · rw [← hw8] at e
          exact (wipe_some e).1
        · obtain ⟨o, e, _⟩ := T.obj _ _ st7 b hb
          exact (held b hb o e).2
      cases b with
      | false =>
        simp only [Bool.false_eq_true, if_false] at q9 ⊢
        exact close I9 q9
      | true =>
        simp only [if_true] at q9 ⊢
        refine thnF (pk.run _ s9 σ8 H9 _ I9 q9) fun kv s10 ⟨yk, H10, I10, r10, q10⟩ => ?_
        refine thnF (pv.run _ s10 σ8 H10 _ I10 q10) fun vv s11 ⟨yv, H11, I11, r11, kvs, k, c, ek, hc11, hD11, hz11, nx⟩ => ?_
        subst ek
        cases r10
        exact dictSetT (X := X.blk s3 H3 scope ce fp) hu I11 hD11 hz11 hc11 r11 fun s12 I12 => close I12 nx
  exact codeAny_compStart_dict loop (T.self X.A 0 _ _ _ st4 loop)
/-- over anything told as a walk -/
theorem dcT_it {J : It} {n : Nat} {G : Hp → Prop} {Y : Nat → Hp → V → Hp → Prop} (w : Walk J n G Y) {g : TG} {tt : TT} {tk tv : TE} {vs : List Nat} {σ : St} {H1 : Hp} {D : Addr} {Qd : Hp → Prop} (Pv : Nat → Hp → Prop) (h0 : Pv 0 (upd H1 D (.dT []))) (hG : ∀ i H, i ≤ n → Pv i H → G H)
    (hs : ∀ i x H H', i < n → Pv i H → Y i H x H' → g x (wipe σ vs) H' fun σ2 H2 => wipe σ2 vs = wipe σ vs ∧ tt σ2 H2 fun b H3 =>
      if b = true then tk σ2 H3 fun y H4 => tv σ2 H4 fun z H5 => ∃ kvs k c, y = .ref c ∧ H5 c = some (.tup (k.map kV)) ∧ H5 D = some (.dT kvs) ∧ kvs.length < sizeLine ∧ Pv (i + 1) (upd H5 D (.dT (putK kvs k z))) else Pv (i + 1) H3) (hd : ∀ H, Pv n H → Qd H) :
    ∃ W : Nat → Nat → Hp → Prop, (∃ m, W 0 m (upd H1 D (.dT []))) ∧ ∀ i m H, W i m H →
      (J.stop i H ∧ Qd H) ∨ (J.go i H ∧ ∃ Nx : Hp → Prop, (∀ H', Nx H' → ∃ m', m' < m ∧ W (i + 1) m' H') ∧ ∀ x H', J.yld i H x H' → g x (wipe σ vs) H' fun σ2 H2 => wipe σ2 vs = wipe σ vs ∧ tt σ2 H2 fun b H3 =>
        if b = true then tk σ2 H3 fun y H4 => tv σ2 H4 fun z H5 => ∃ kvs k c, y = .ref c ∧ H5 c = some (.tup (k.map kV)) ∧ H5 D = some (.dT kvs) ∧ kvs.length < sizeLine ∧ Nx (upd H5 D (.dT (putK kvs k z))) else Nx H3) := by
  refine ⟨fun i m H => m = n - i ∧ i ≤ n ∧ Pv i H, ⟨n, by simp, Nat.zero_le _, h0⟩, fun i m H ⟨em, hi, p⟩ => ?_⟩
  subst em
  have gH := hG i H hi p
  rcases Nat.lt_or_ge i n with lt | ge
  · exact .inr ⟨w.goes i H lt gH, Pv (i + 1), fun H' p' => ⟨n - (i + 1), by omega, rfl, lt, p'⟩, fun x H' y => hs i x H H' lt p (w.yields i H x H' lt gH y)⟩
  · have e : i = n := by omega
    subst e
    exact .inl ⟨w.stops H gH, hd H p⟩
/-- the same for keys that are ints or texts -/
theorem dc_it {J : It} {n : Nat} {G : Hp → Prop} {Y : Nat → Hp → V → Hp → Prop} (w : Walk J n G Y) {g : TG} {tt : TT} {tk tv : TE} {vs : List Nat} {σ : St} {H1 : Hp} {D : Addr} {Qd : Hp → Prop} (Pv : Nat → Hp → Prop) (h0 : Pv 0 (upd H1 D (.dK []))) (hG : ∀ i H, i ≤ n → Pv i H → G H)
    (hs : ∀ i x H H', i < n → Pv i H → Y i H x H' → g x (wipe σ vs) H' fun σ2 H2 => wipe σ2 vs = wipe σ vs ∧ tt σ2 H2 fun b H3 =>
      if b = true then tk σ2 H3 fun y H4 => tv σ2 H4 fun z H5 => ∃ kvs k, y = kV k ∧ H5 D = some (.dK kvs) ∧ kvs.length < sizeLine ∧ Pv (i + 1) (upd H5 D (.dK (putK kvs k z))) else Pv (i + 1) H3) (hd : ∀ H, Pv n H → Qd H) :
    ∃ W : Nat → Nat → Hp → Prop, (∃ m, W 0 m (upd H1 D (.dK []))) ∧ ∀ i m H, W i m H →
      (J.stop i H ∧ Qd H) ∨ (J.go i H ∧ ∃ Nx : Hp → Prop, (∀ H', Nx H' → ∃ m', m' < m ∧ W (i + 1) m' H') ∧ ∀ x H', J.yld i H x H' → g x (wipe σ vs) H' fun σ2 H2 => wipe σ2 vs = wipe σ vs ∧ tt σ2 H2 fun b H3 =>
        if b = true then tk σ2 H3 fun y H4 => tv σ2 H4 fun z H5 => ∃ kvs k, y = kV k ∧ H5 D = some (.dK kvs) ∧ kvs.length < sizeLine ∧ Nx (upd H5 D (.dK (putK kvs k z))) else Nx H3) := by
  refine ⟨fun i m H => m = n - i ∧ i ≤ n ∧ Pv i H, ⟨n, by simp, Nat.zero_le _, h0⟩, fun i m H ⟨em, hi, p⟩ => ?_⟩
  subst em
  have gH := hG i H hi p
  rcases Nat.lt_or_ge i n with lt | ge
  · exact .inr ⟨w.goes i H lt gH, Pv (i + 1), fun H' p' => ⟨n - (i + 1), by omega, rfl, lt, p'⟩, fun x H' y => hs i x H H' lt p (w.yields i H x H' lt gH y)⟩
  · have e : i = n := by omega
    subst e
    exact .inl ⟨w.stops H gH, hd H p⟩
end
end K21
end

/-! K21Rules5 -/
section
set_option Elab.async false
set_option linter.all false
set_option maxRecDepth 100000
/-! a value, a test, with a word behind it: what follows is shown once -/
namespace K21
open PySem PySem.Spec PyProof.Rows L2
/-- sep.join(l) -/
def rJn (K : PySem.W.Frag) : V → List V → Hp → VK → Prop := fun x xs H Q => ∃ a p, ∃ ys : List Str, x = .str a ∧ xs = [.ref p] ∧
  (SqL K H p (ys.map V.str) ∨ SqT K H p (ys.map V.str)) ∧ (ys.map (·.length)).sum + ys.length * a.length ≤ 16777216 ∧ Q (.str (Txt.join a ys)) H
section
variable {X : Cx} {e : Expr}
def tMidE (t : TE) : TE := fun σ H Q => ∃ Mid : VK, t σ H Mid ∧ ∀ v H1, Mid v H1 → Q v H1
def tMidT (t : TT) : TT := fun σ H Q => ∃ Mid : Bool → Hp → Prop, t σ H Mid ∧ ∀ b H1, Mid b H1 → Q b H1
theorem pe_mid {t : TE} (h : PE X e t) : PE X e (tMidE t) := by
  refine ⟨fun pins s σ H Q I ⟨Mid, h1, h2⟩ => thn (h.run pins s σ H Mid I h1) fun v s' q => ?_⟩
  obtain ⟨x, H', I', r, q⟩ := q
  exact ⟨x, H', I', r, h2 _ _ q⟩
theorem pt_mid {t : TT} (h : PT X e t) : PT X e (tMidT t) := by
  refine ⟨fun pins s σ H Q I ⟨Mid, h1, h2⟩ => thn (h.run pins s σ H Mid I h1) fun v s' q => ?_⟩
  obtain ⟨H', I', q⟩ := q
  exact ⟨H', I', h2 _ _ q⟩
end
end K21
end

/-! K21Bf -/
section
set_option linter.all false
/-! the walk over bridges, in plain Lean: rounds of relaxing reach one table, whatever their number from the line's length on -/
namespace K21
namespace Bf
abbrev Cost := Nat × Nat
abbrev Tab := Nat → Option Cost
/-- an edge: from, to, whether it is a way back (0 or 1) -/
abbrev Edge := Nat × Nat × Nat
def clt (a b : Cost) : Bool := decide (a.1 < b.1 ∨ (a.1 = b.1 ∧ a.2 < b.2))
def cle (a b : Cost) : Prop := a.1 < b.1 ∨ (a.1 = b.1 ∧ a.2 ≤ b.2)
theorem clt_iff {a b : Cost} : clt a b = true ↔ a.1 < b.1 ∨ (a.1 = b.1 ∧ a.2 < b.2) := by
  unfold clt
  exact decide_eq_true_iff
theorem cle_of_not {a b : Cost} (h : clt a b = false) : cle b a := by
  have h' : ¬ (a.1 < b.1 ∨ (a.1 = b.1 ∧ a.2 < b.2)) := fun q => by rw [clt_iff.mpr q] at h; cases h
  unfold cle
  omega
theorem cle_refl (a : Cost) : cle a a := .inr ⟨rfl, Nat.le_refl _⟩
theorem cle_trans {a b c : Cost} (h : cle a b) (k : cle b c) : cle a c := by
  unfold cle at *
  omega
theorem cle_anti {a b : Cost} (h : cle a b) (k : cle b a) : a = b := by
  unfold cle at *
  have h1 : a.1 = b.1 := by omega
  have h2 : a.2 = b.2 := by omega
  exact Prod.ext h1 h2
theorem cle_of_lt {a b : Cost} (h : clt a b = true) : cle a b := by
  have := clt_iff.mp h
  unfold cle
  omega
theorem not_cle_of_lt {a b : Cost} (h : clt a b = true) : ¬ cle b a := by
  have := clt_iff.mp h
  unfold cle
  omega
def stp (a : Cost) (c : Nat) : Cost := (a.1 + c, a.2 + 1)
theorem stp_mono {a b : Cost} (c : Nat) (h : cle a b) : cle (stp a c) (stp b c) := by
  unfold cle stp at *
  simp only
  omega
def put (f : Tab) (v : Nat) (k : Cost) : Tab := fun x => if x = v then some k else f x
theorem put_same (f : Tab) (v : Nat) (k : Cost) : put f v k v = some k := if_pos rfl
theorem put_ne (f : Tab) {v x : Nat} (k : Cost) (h : x ≠ v) : put f v k x = f x := if_neg h
/-- whether the edge leads on more cheaply -/
def gain (f : Tab) (u v c : Nat) : Option Cost := match f u with
  | none => none
  | some a => match f v with
    | none => some (stp a c)
    | some b => if clt (stp a c) b = true then some (stp a c) else none
def rl (f : Tab) (u v c : Nat) : Tab := match gain f u v c with
  | none => f
  | some k => put f v k
def rnd (E : List Edge) (f : Tab) : Tab := E.foldl (fun f e => rl f e.1 e.2.1 e.2.2) f
def t0 : Tab := fun x => if x = 0 then some (0, 0) else none
def rnds (E : List Edge) : Nat → Tab
  | 0 => t0
  | n + 1 => rnd E (rnds E n)

/-- f tells at most what g tells -/
def Le (f g : Tab) : Prop := ∀ v b, g v = some b → ∃ a, f v = some a ∧ cle a b
theorem Le.refl (f : Tab) : Le f f := fun _ b h => ⟨b, h, cle_refl b⟩
theorem Le.trans {f g h : Tab} (a : Le f g) (b : Le g h) : Le f h := fun v c e => by
  obtain ⟨x, e1, l1⟩ := b v c e
  obtain ⟨y, e2, l2⟩ := a v x e1
  exact ⟨y, e2, cle_trans l2 l1⟩
theorem gain_some {f : Tab} {u v c : Nat} {k : Cost} (h : gain f u v c = some k) : ∃ a, f u = some a ∧ k = stp a c ∧ ∀ b, f v = some b → clt k b = true := by
  unfold gain at h
  split at h
  · cases h
  · rename_i a ea
    split at h
    · rename_i eb
      cases h
      exact ⟨a, ea, rfl, fun b e => by rw [eb] at e; cases e⟩
    · rename_i b eb
      split at h
      · rename_i hl
        cases h
        exact ⟨a, ea, rfl, fun b' e => by rw [eb] at e; cases e; exact hl⟩
      · cases h
theorem gain_none {f : Tab} {u v c : Nat} (h : gain f u v c = none) : ∀ a, f u = some a → ∃ b, f v = some b ∧ cle b (stp a c) := by
  intro a ea
  unfold gain at h
  rw [ea] at h
  cases eb : f v with
  | none =>
    rw [eb] at h
    cases h
  | some b =>
    rw [eb] at h
    refine ⟨b, rfl, ?_⟩
    cases hl : clt (stp a c) b with
    | true =>
      simp only [hl] at h
      cases h
    | false => exact cle_of_not hl
theorem rl_le (f : Tab) (u v c : Nat) : Le (rl f u v c) f := by
  unfold rl
  split
  · exact Le.refl f
  · rename_i k hk
    obtain ⟨a, _, _, hb⟩ := gain_some hk
    intro x b e
    by_cases hx : x = v
    · subst hx
      exact ⟨k, put_same _ _ _, cle_of_lt (hb b e)⟩
    · exact ⟨b, by rw [put_ne _ _ hx]; exact e, cle_refl b⟩
/-- behind the edge it is kept -/
theorem rl_edge {f : Tab} {u v c : Nat} {a : Cost} (ea : f u = some a) : ∃ b, rl f u v c v = some b ∧ cle b (stp a c) := by
  unfold rl
  cases hk : gain f u v c with
  | none => exact gain_none hk a ea
  | some k =>
    obtain ⟨a', e', ek, _⟩ := gain_some hk
    rw [ea] at e'
    cases e'
    exact ⟨k, put_same _ _ _, by rw [ek]; exact cle_refl _⟩
theorem rnd_le (E : List Edge) : ∀ f : Tab, Le (rnd E f) f := by
  induction E with
  | nil => exact fun f => Le.refl f
  | cons e E ih => exact fun f => (ih _).trans (rl_le f _ _ _)
theorem rnd_append (E1 E2 : List Edge) (f : Tab) : rnd (E1 ++ E2) f = rnd E2 (rnd E1 f) := List.foldl_append ..
theorem rnd_edge {E : List Edge} {f : Tab} {u v c : Nat} (h : (u, v, c) ∈ E) {a : Cost} (ea : f u = some a) : ∃ b, rnd E f v = some b ∧ cle b (stp a c) := by
  obtain ⟨E1, E2, rfl⟩ := List.append_of_mem h
  rw [rnd_append]
  obtain ⟨a1, e1, l1⟩ := rnd_le E1 f u a ea
  obtain ⟨b1, e2, l2⟩ := rl_edge (v := v) (c := c) e1
  obtain ⟨b, e3, l3⟩ := rnd_le E2 _ v b1 e2
  exact ⟨b, e3, cle_trans l3 (cle_trans l2 (stp_mono c l1))⟩

/-! ### walks -/
/-- a walk from 0 to v: its cost, the places from v back to 0 -/
inductive Wk (E : List Edge) : Nat → Cost → List Nat → Prop
  | nil : Wk E 0 (0, 0) [0]
  | step {u v c : Nat} {a : Cost} {l : List Nat} : Wk E u a l → (u, v, c) ∈ E → Wk E v (stp a c) (v :: l)
def Sound (E : List Edge) (f : Tab) : Prop := ∀ v a, f v = some a → ∃ l, Wk E v a l
theorem t0_sound (E : List Edge) : Sound E t0 := fun v a h => by
  unfold t0 at h
  split at h
  · rename_i e
    cases h
    exact ⟨[0], by rw [e]; exact .nil⟩
  · cases h
theorem rl_sound {E : List Edge} {f : Tab} (s : Sound E f) {u v c : Nat} (h : (u, v, c) ∈ E) : Sound E (rl f u v c) := by
  unfold rl
  split
  · exact s
  · rename_i k hk
    obtain ⟨a, ea, ek, _⟩ := gain_some hk
    intro x b e
    by_cases hx : x = v
    · subst hx
      rw [put_same] at e
      cases e
      obtain ⟨l, wl⟩ := s u a ea
      exact ⟨x :: l, by rw [ek]; exact .step wl h⟩
    · rw [put_ne _ _ hx] at e
      exact s x b e
theorem rnd_sound {E : List Edge} : ∀ (E' : List Edge), (∀ e ∈ E', e ∈ E) → ∀ f : Tab, Sound E f → Sound E (rnd E' f) := by
  intro E'
  induction E' with
  | nil => exact fun _ f s => s
  | cons e E' ih =>
    intro h f s
    exact ih (fun e he => h e (List.mem_cons_of_mem _ he)) _ (rl_sound s (h e List.mem_cons_self))
theorem rnds_sound (E : List Edge) : ∀ n, Sound E (rnds E n)
  | 0 => t0_sound E
  | n + 1 => rnd_sound E (fun _ h => h) _ (rnds_sound E n)
theorem rnds_reach (E : List Edge) : ∀ {v : Nat} {a : Cost} {l : List Nat}, Wk E v a l → ∀ n, a.2 ≤ n → ∃ b, rnds E n v = some b ∧ cle b a := by
  intro v a l w
  induction w with
  | nil =>
    intro n _
    induction n with
    | zero => exact ⟨(0, 0), rfl, cle_refl _⟩
    | succ n ih =>
      obtain ⟨b, e, le⟩ := ih (Nat.zero_le _)
      obtain ⟨b', e', le'⟩ := rnd_le E (rnds E n) 0 b e
      exact ⟨b', e', cle_trans le' le⟩
  | @step u v c a l w h ih =>
    intro n hn
    cases n with
    | zero => exact absurd hn (Nat.not_succ_le_zero _)
    | succ n =>
      obtain ⟨b, e, le⟩ := ih n (Nat.le_of_succ_le_succ hn)
      obtain ⟨b', e', le'⟩ := rnd_edge h e
      exact ⟨b', e', cle_trans le' (stp_mono c le)⟩

/-! ### a walk that comes to a place twice can be cut -/
theorem cut {E : List Edge} {x : Nat} {post : List Nat} : ∀ (pre : List Nat) {v : Nat} {a : Cost}, Wk E v a (pre ++ x :: post) →
    ∃ (ax : Cost) (d1 d2 : Nat), Wk E x ax (x :: post) ∧ a = (ax.1 + d1, ax.2 + d2) ∧ ∀ (b : Cost) (ws : List Nat), Wk E x b (x :: ws) → Wk E v (b.1 + d1, b.2 + d2) (pre ++ x :: ws)
  | [], v, a, w => by
    have w' : Wk E v a (x :: post) := w
    have ev : v = x := by
      cases w' with
      | nil => rfl
      | step _ _ => rfl
    subst ev
    exact ⟨a, 0, 0, w', rfl, fun b ws wb => wb⟩
  | p :: pre, v, a, w => by
    have w' : Wk E v a (p :: (pre ++ x :: post)) := w
    generalize el : pre ++ x :: post = l at w'
    cases w' with
    | nil =>
      exact absurd el (by cases pre <;> simp)
    | @step u _ c a0 l w0 h =>
      subst el
      obtain ⟨ax, d1, d2, w1, e1, r⟩ := cut pre w0
      refine ⟨ax, d1 + c, d2 + 1, w1, ?_, fun b ws wb => ?_⟩
      · rw [e1]
        unfold stp
        simp only [Nat.add_assoc]
      · have q := Wk.step (r b ws wb) h
        unfold stp at q
        simp only [Nat.add_assoc] at q
        exact q
theorem dup_of : ∀ {l : List Nat}, ¬ l.Nodup → ∃ pre x mid post, l = pre ++ x :: (mid ++ x :: post)
  | [], h => absurd List.nodup_nil h
  | y :: l, h => by
    by_cases m : y ∈ l
    · obtain ⟨mid, post, e⟩ := List.append_of_mem m
      exact ⟨[], y, mid, post, by rw [e]; rfl⟩
    · have h' : ¬ l.Nodup := fun n => h (List.nodup_cons.mpr ⟨m, n⟩)
      obtain ⟨pre, x, mid, post, e⟩ := dup_of h'
      exact ⟨y :: pre, x, mid, post, by rw [e]; rfl⟩
theorem len_filter_ne : ∀ {l : List Nat} {N : Nat}, l.Nodup → l.length ≤ (l.filter fun x => decide (x ≠ N)).length + 1
  | [], _, _ => Nat.zero_le _
  | y :: l, N, h => by
    obtain ⟨h1, h2⟩ := List.nodup_cons.mp h
    by_cases e : y = N
    · have all : l.filter (fun x => decide (x ≠ N)) = l := List.filter_eq_self.mpr fun x hx => decide_eq_true fun q => h1 (by rw [e, ← q]; exact hx)
      rw [List.filter_cons, if_neg (by simp [e]), all]
      exact Nat.le_refl _
    · rw [List.filter_cons, if_pos (by simp [e])]
      have := len_filter_ne (N := N) h2
      simp only [List.length_cons]
      omega
theorem nodup_len : ∀ (N : Nat) {l : List Nat}, l.Nodup → (∀ x ∈ l, x < N) → l.length ≤ N
  | 0, [], _, _ => Nat.zero_le _
  | 0, x :: l, _, h => absurd (h x List.mem_cons_self) (Nat.not_lt_zero _)
  | N + 1, l, hn, h => by
    have h1 := len_filter_ne (N := N) hn
    have h2 := nodup_len N (l := l.filter fun x => decide (x ≠ N)) (hn.filter _) fun x hx => by
      obtain ⟨m, q⟩ := List.mem_filter.mp hx
      have a := h x m
      have b : x ≠ N := of_decide_eq_true q
      omega
    omega
theorem wk_len {E : List Edge} {v : Nat} {a : Cost} {l : List Nat} (w : Wk E v a l) : l.length = a.2 + 1 := by
  induction w with
  | nil => rfl
  | step _ _ ih =>
    unfold stp
    simp only [List.length_cons]
    omega
theorem wk_in {E : List Edge} {N : Nat} (hE : ∀ e ∈ E, e.2.1 ≤ N) {v : Nat} {a : Cost} {l : List Nat} (w : Wk E v a l) : ∀ x ∈ l, x < N + 1 := by
  induction w with
  | nil =>
    intro x hx
    rw [List.mem_singleton.mp hx]
    exact Nat.succ_pos _
  | step _ h ih =>
    intro x hx
    rcases List.mem_cons.mp hx with e | hx
    · rw [e]
      exact Nat.lt_succ_of_le (hE _ h)
    · exact ih x hx
theorem short {E : List Edge} {N : Nat} (hE : ∀ e ∈ E, e.2.1 ≤ N) : ∀ (n : Nat) {v : Nat} {a : Cost} {l : List Nat}, Wk E v a l → a.2 ≤ n → ∃ b l', Wk E v b l' ∧ cle b a ∧ b.2 ≤ N := by
  intro n
  induction n with
  | zero => exact fun {v a l} w h => ⟨a, l, w, cle_refl a, Nat.le_trans h (Nat.zero_le _)⟩
  | succ n ih =>
    intro v a l w h
    by_cases hN : a.2 ≤ N
    · exact ⟨a, l, w, cle_refl a, hN⟩
    · have hd : ¬ l.Nodup := fun q => by
        have h1 := nodup_len (N + 1) q (wk_in hE w)
        have h2 := wk_len w
        omega
      obtain ⟨pre, x, mid, post, e⟩ := dup_of hd
      subst e
      obtain ⟨ax, d1, d2, w1, e1, r⟩ := cut pre w
      have w1' : Wk E x ax ((x :: mid) ++ x :: post) := w1
      obtain ⟨bx, c1, c2, w2, e2, _⟩ := cut (x :: mid) w1'
      have w3 := r bx post w2
      have l1 := wk_len w1
      have l2 := wk_len w2
      simp only [List.length_cons, List.length_append] at l1 l2
      have small : (bx.1 + d1, bx.2 + d2).2 ≤ n := by
        show bx.2 + d2 ≤ n
        have ea : a.2 = ax.2 + d2 := by rw [e1]
        omega
      obtain ⟨b, l', w4, le, hb⟩ := ih w3 small
      refine ⟨b, l', w4, cle_trans le ?_, hb⟩
      unfold cle
      have ea1 : a.1 = ax.1 + d1 := by rw [e1]
      have ea2 : a.2 = ax.2 + d2 := by rw [e1]
      have eb1 : ax.1 = bx.1 + c1 := by rw [e2]
      have eb2 : ax.2 = bx.2 + c2 := by rw [e2]
      simp only
      omega
/-- from N rounds on the table stays -/
theorem rnds_stay {E : List Edge} {N : Nat} (hE : ∀ e ∈ E, e.2.1 ≤ N) {n m : Nat} (hn : N ≤ n) (hm : N ≤ m) : rnds E n = rnds E m := by
  have key : ∀ n m : Nat, N ≤ m → ∀ v b, rnds E n v = some b → ∃ a, rnds E m v = some a ∧ cle a b := by
    intro n m hm v b e
    obtain ⟨l, w⟩ := rnds_sound E n v b e
    obtain ⟨b', l', w', le, hb⟩ := short hE b.2 w (Nat.le_refl _)
    obtain ⟨a, e', le'⟩ := rnds_reach E w' m (Nat.le_trans hb hm)
    exact ⟨a, e', cle_trans le' le⟩
  funext v
  cases e : rnds E n v with
  | none =>
    cases e2 : rnds E m v with
    | none => rfl
    | some b =>
      obtain ⟨a, e3, _⟩ := key m n hn v b e2
      rw [e] at e3
      cases e3
  | some a =>
    obtain ⟨b, e2, l1⟩ := key n m hm v a e
    obtain ⟨a', e3, l2⟩ := key m n hn v b e2
    rw [e] at e3
    cases e3
    rw [e2, cle_anti l2 l1]
end Bf
end K21
namespace K21
namespace Bf
/-! ### the program's rounds: with the ways by which the places were come to -/
structure Bs where
  f : Tab
  g : Nat → Option (Nat × Nat × Bool)
/-- a bridge: the kept path's index, its two places -/
abbrev Br := Nat × Nat × Nat
def b01 (bk : Bool) : Nat := if bk then 1 else 0
def took (s : Bs) (u v idx : Nat) (bk : Bool) (k : Cost) : Bs := ⟨put s.f v k, fun x => if x = v then some (u, idx, bk) else s.g x⟩
def lead (s : Bs) (u v idx : Nat) (bk : Bool) : Bs × Bool := match gain s.f u v (b01 bk) with
  | none => (s, false)
  | some k => (took s u v idx bk k, true)
def turnB (q : Bs × Bool) (b : Br) : Bs × Bool :=
  if (lead q.1 b.2.1 b.2.2 b.1 false).2 = true then ((lead q.1 b.2.1 b.2.2 b.1 false).1, true)
  else ((lead q.1 b.2.2 b.2.1 b.1 true).1, q.2 || (lead q.1 b.2.2 b.2.1 b.1 true).2)
def roundB (bs : List Br) (s : Bs) : Bs × Bool := bs.foldl turnB (s, false)
def edges (bs : List Br) : List Edge := bs.flatMap fun b => [(b.2.1, b.2.2, 0), (b.2.2, b.2.1, 1)]
def s0 : Bs := ⟨t0, fun _ => none⟩
def sB (bs : List Br) : Nat → Bs × Bool
  | 0 => (s0, true)
  | n + 1 => roundB bs (sB bs n).1
theorem lead_f (s : Bs) (u v idx : Nat) (bk : Bool) : (lead s u v idx bk).1.f = rl s.f u v (b01 bk) := by
  unfold lead rl
  cases gain s.f u v (b01 bk) with
  | none => rfl
  | some k => rfl
theorem lead_no {s : Bs} {u v idx : Nat} {bk : Bool} (h : (lead s u v idx bk).2 = false) : (lead s u v idx bk).1 = s ∧ gain s.f u v (b01 bk) = none := by
  unfold lead at h ⊢
  cases e : gain s.f u v (b01 bk) with
  | none => exact ⟨rfl, rfl⟩
  | some k =>
    rw [e] at h
    cases h
theorem lead_yes {s : Bs} {u v idx : Nat} {bk : Bool} (h : (lead s u v idx bk).2 = true) : ∃ k, gain s.f u v (b01 bk) = some k ∧ (lead s u v idx bk).1 = took s u v idx bk k := by
  unfold lead at h ⊢
  cases e : gain s.f u v (b01 bk) with
  | none =>
    rw [e] at h
    cases h
  | some k => exact ⟨k, rfl, rfl⟩
/-- behind a gain onward the way back gains nothing -/
theorem back_none {f : Tab} {i j : Nat} (hij : i ≠ j) {k : Cost} (h : gain f i j 0 = some k) : rl (put f j k) j i 1 = put f j k := by
  obtain ⟨a, ea, ek, _⟩ := gain_some h
  have e1 : put f j k j = some k := put_same _ _ _
  have e2 : put f j k i = some a := by rw [put_ne _ _ hij]; exact ea
  have e3 : clt (stp k 1) a = false := by
    rw [ek]
    unfold clt stp
    simp only
    exact decide_eq_false (by omega)
  unfold rl gain
  rw [e1, e2]
  simp only [e3]
  rfl
theorem turnB_f (q : Bs × Bool) (b : Br) (hb : b.2.1 ≠ b.2.2) : (turnB q b).1.f = rl (rl q.1.f b.2.1 b.2.2 0) b.2.2 b.2.1 1 := by
  unfold turnB
  cases h : (lead q.1 b.2.1 b.2.2 b.1 false).2 with
  | true =>
    rw [if_pos rfl]
    obtain ⟨k, hk, e⟩ := lead_yes h
    have e1 : rl q.1.f b.2.1 b.2.2 0 = put q.1.f b.2.2 k := by
      unfold rl
      have hk' : gain q.1.f b.2.1 b.2.2 0 = some k := hk
      rw [hk']
    rw [e1, back_none hb hk]
    show (lead q.1 b.2.1 b.2.2 b.1 false).1.f = _
    rw [e]
    rfl
  | false =>
    rw [if_neg Bool.false_ne_true]
    obtain ⟨_, hk⟩ := lead_no h
    have e1 : rl q.1.f b.2.1 b.2.2 0 = q.1.f := by
      unfold rl
      have hk' : gain q.1.f b.2.1 b.2.2 0 = none := hk
      rw [hk']
    rw [e1]
    exact lead_f _ _ _ _ _
theorem fold_f : ∀ (bs : List Br), (∀ b ∈ bs, b.2.1 ≠ b.2.2) → ∀ q : Bs × Bool, (bs.foldl turnB q).1.f = rnd (edges bs) q.1.f
  | [], _, _ => rfl
  | b :: bs, h, q => by
    rw [List.foldl_cons, fold_f bs (fun c hc => h c (List.mem_cons_of_mem _ hc)) _, turnB_f q b (h b List.mem_cons_self)]
    rfl
/-- something is less, or new -/
def Lt (f' f : Tab) : Prop := ∃ v a, f' v = some a ∧ ∀ b, f v = some b → clt a b = true
theorem Lt.irrefl {f : Tab} (h : Lt f f) : False := by
  obtain ⟨v, a, e, l⟩ := h
  exact not_cle_of_lt (l a e) (cle_refl a)
theorem Lt.of_le {f g h : Tab} (a : Le f g) (b : Lt g h) : Lt f h := by
  obtain ⟨v, x, e, l⟩ := b
  obtain ⟨y, e', le⟩ := a v x e
  refine ⟨v, y, e', fun b eb => ?_⟩
  have := clt_iff.mp (l b eb)
  unfold cle at le
  exact clt_iff.mpr (by omega)
theorem Le.lt {f g h : Tab} (a : Lt f g) (b : Le g h) : Lt f h := by
  obtain ⟨v, x, e, l⟩ := a
  refine ⟨v, x, e, fun c ec => ?_⟩
  obtain ⟨y, ey, le⟩ := b v c ec
  have := clt_iff.mp (l y ey)
  unfold cle at le
  exact clt_iff.mpr (by omega)
theorem lead_lt {s : Bs} {u v idx : Nat} {bk : Bool} (h : (lead s u v idx bk).2 = true) : Lt (lead s u v idx bk).1.f s.f := by
  obtain ⟨k, hk, e⟩ := lead_yes h
  obtain ⟨a, _, _, hb⟩ := gain_some hk
  rw [e]
  exact ⟨v, k, put_same _ _ _, hb⟩
theorem lead_le (s : Bs) (u v idx : Nat) (bk : Bool) : Le (lead s u v idx bk).1.f s.f := by
  rw [lead_f]
  exact rl_le _ _ _ _
theorem turnB_le (q : Bs × Bool) (b : Br) : Le (turnB q b).1.f q.1.f := by
  unfold turnB
  split
  · exact lead_le _ _ _ _ _
  · exact lead_le _ _ _ _ _
theorem fold_le : ∀ (bs : List Br) (q : Bs × Bool), Le (bs.foldl turnB q).1.f q.1.f
  | [], q => Le.refl _
  | b :: bs, q => (fold_le bs (turnB q b)).trans (turnB_le q b)
theorem turnB_flag {q : Bs × Bool} {b : Br} (h : (turnB q b).2 = true) : q.2 = true ∨ Lt (turnB q b).1.f q.1.f := by
  unfold turnB at h ⊢
  split at h
  · rename_i hl
    rw [if_pos hl]
    exact .inr (lead_lt hl)
  · rename_i hl
    rw [if_neg hl]
    rcases (Bool.or_eq_true _ _).mp h with e | e
    · exact .inl e
    · exact .inr (lead_lt e)
theorem turnB_off {q : Bs × Bool} {b : Br} (h : (turnB q b).2 = false) : (turnB q b).1 = q.1 ∧ q.2 = false := by
  unfold turnB at h ⊢
  split at h
  · cases h
  · rename_i hl
    rw [if_neg hl]
    have h' := (Bool.or_eq_false_iff).mp h
    exact ⟨(lead_no h'.2).1, h'.1⟩
theorem fold_flag : ∀ (bs : List Br) (q : Bs × Bool), (bs.foldl turnB q).2 = true → q.2 = true ∨ Lt (bs.foldl turnB q).1.f q.1.f
  | [], q, h => .inl h
  | b :: bs, q, h => by
    rcases fold_flag bs (turnB q b) h with e | l
    · rcases turnB_flag e with e | l
      · exact .inl e
      · exact .inr (Lt.of_le (fold_le bs (turnB q b)) l)
    · exact .inr (Le.lt l (turnB_le q b))
theorem fold_off : ∀ (bs : List Br) (q : Bs × Bool), (bs.foldl turnB q).2 = false → (bs.foldl turnB q).1 = q.1 ∧ q.2 = false
  | [], q, h => ⟨rfl, h⟩
  | b :: bs, q, h => by
    obtain ⟨e1, e2⟩ := fold_off bs (turnB q b) h
    obtain ⟨e3, e4⟩ := turnB_off e2
    exact ⟨by rw [List.foldl_cons, e1, e3], e4⟩

/-! ### how the places were come to -/
/-- the edge of a bridge, gone the one way or the other -/
def Goes (bs : List Br) (u v idx : Nat) (bk : Bool) : Prop := if bk = true then (idx, v, u) ∈ bs else (idx, u, v) ∈ bs
structure Came (bs : List Br) (s : Bs) : Prop where
  zero : s.f 0 = some (0, 0)
  by_ : ∀ v a, v ≠ 0 → s.f v = some a → ∃ u idx bk b, s.g v = some (u, idx, bk) ∧ s.f u = some b ∧ cle (stp b (b01 bk)) a ∧ Goes bs u v idx bk
theorem came_0 (bs : List Br) : Came bs s0 := ⟨rfl, fun v a hv h => by
  have e : t0 v = some a := h
  unfold t0 at e
  rw [if_neg hv] at e
  cases e⟩
theorem came_lead {bs : List Br} {s : Bs} (c : Came bs s) {u v idx : Nat} {bk : Bool} (hg : Goes bs u v idx bk) (huv : u ≠ v) : Came bs (lead s u v idx bk).1 := by
  cases h : (lead s u v idx bk).2 with
  | false =>
    rw [(lead_no h).1]
    exact c
  | true =>
    obtain ⟨k, hk, e⟩ := lead_yes h
    obtain ⟨a, ea, ek, hb⟩ := gain_some hk
    rw [e]
    have v0 : v ≠ 0 := fun q => by
      subst q
      have := clt_iff.mp (hb (0, 0) c.zero)
      rw [ek] at this
      unfold stp at this
      simp only at this
      omega
    have fv : (took s u v idx bk k).f v = some k := put_same _ _ _
    have fo : ∀ x, x ≠ v → (took s u v idx bk k).f x = s.f x := fun x hx => put_ne _ _ hx
    have go : ∀ x, x ≠ v → (took s u v idx bk k).g x = s.g x := fun x hx => if_neg hx
    refine ⟨by rw [fo 0 (Ne.symm v0)]; exact c.zero, fun x y hx ey => ?_⟩
    by_cases hxv : x = v
    · subst hxv
      rw [fv] at ey
      cases ey
      exact ⟨u, idx, bk, a, if_pos rfl, by rw [fo u huv]; exact ea, by rw [ek]; exact cle_refl _, hg⟩
    · rw [fo x hxv] at ey
      obtain ⟨u', i', bk', b', e1, e2, e3, e4⟩ := c.by_ x y hx ey
      by_cases huv' : u' = v
      · subst huv'
        exact ⟨u', i', bk', k, by rw [go x hxv]; exact e1, fv, cle_trans (stp_mono _ (cle_of_lt (hb b' e2))) e3, e4⟩
      · exact ⟨u', i', bk', b', by rw [go x hxv]; exact e1, by rw [fo u' huv']; exact e2, e3, e4⟩
theorem came_turn {bs : List Br} {q : Bs × Bool} (c : Came bs q.1) {b : Br} (hb : b ∈ bs) (hn : b.2.1 ≠ b.2.2) : Came bs (turnB q b).1 := by
  unfold turnB
  split
  · exact came_lead c (by unfold Goes; rw [if_neg Bool.false_ne_true]; exact hb) hn
  · exact came_lead c (by unfold Goes; rw [if_pos rfl]; exact hb) (Ne.symm hn)
theorem came_fold {bs : List Br} (hn : ∀ b ∈ bs, b.2.1 ≠ b.2.2) : ∀ (l : List Br), (∀ b ∈ l, b ∈ bs) → ∀ q : Bs × Bool, Came bs q.1 → Came bs (l.foldl turnB q).1
  | [], _, _, c => c
  | b :: l, h, q, c => came_fold hn l (fun d hd => h d (List.mem_cons_of_mem _ hd)) _ (came_turn c (h b List.mem_cons_self) (hn b (h b List.mem_cons_self)))
theorem came_n {bs : List Br} (hn : ∀ b ∈ bs, b.2.1 ≠ b.2.2) : ∀ n, Came bs (sB bs n).1
  | 0 => came_0 bs
  | n + 1 => came_fold hn bs (fun _ h => h) _ (came_n hn n)
theorem sB_f {bs : List Br} (hn : ∀ b ∈ bs, b.2.1 ≠ b.2.2) : ∀ n, (sB bs n).1.f = rnds (edges bs) n
  | 0 => rfl
  | n + 1 => by
    show (bs.foldl turnB ((sB bs n).1, false)).1.f = rnd (edges bs) (rnds (edges bs) n)
    rw [fold_f bs hn, sB_f hn n]
theorem edges_in {bs : List Br} {N : Nat} (h : ∀ b ∈ bs, b.2.1 ≤ N ∧ b.2.2 ≤ N) : ∀ e ∈ edges bs, e.2.1 ≤ N := fun e he => by
  obtain ⟨b, hb, hm⟩ := List.mem_flatMap.mp he
  simp only [List.mem_cons, List.not_mem_nil, or_false] at hm
  rcases hm with q | q
  · rw [q]; exact (h b hb).2
  · rw [q]; exact (h b hb).1
/-- what a line wants of its bridges -/
structure BrOk (N : Nat) (bs : List Br) : Prop where
  le : ∀ b ∈ bs, b.2.1 ≤ N ∧ b.2.2 ≤ N
  ne : ∀ b ∈ bs, b.2.1 ≠ b.2.2
/-- a round that changed something is among the first -/
theorem on_lt {N : Nat} {bs : List Br} (ok : BrOk N bs) {n : Nat} (h : (sB bs (n + 1)).2 = true) : n < N := by
  rcases Nat.lt_or_ge n N with l | g
  · exact l
  · have e : (sB bs (n + 1)).1.f = (sB bs n).1.f := by
      rw [sB_f ok.ne, sB_f ok.ne]
      exact rnds_stay (edges_in ok.le) (Nat.le_succ_of_le g) g
    rcases fold_flag bs ((sB bs n).1, false) h with q | q
    · cases q
    · have q' : Lt (sB bs (n + 1)).1.f (sB bs n).1.f := q
      rw [e] at q'
      exact q'.irrefl.elim
/-- behind a round without a change: the table of the law's own walk -/
theorem off_all {N : Nat} {bs : List Br} (ok : BrOk N bs) {n m : Nat} (h : (sB bs (n + 1)).2 = false) (hm : N ≤ m) : (sB bs (n + 1)).1.f = rnds (edges bs) m := by
  obtain ⟨e, _⟩ := fold_off bs ((sB bs n).1, false) h
  have e1 : rnd (edges bs) (rnds (edges bs) n) = rnds (edges bs) n := by
    rw [← sB_f ok.ne n, ← fold_f bs ok.ne ((sB bs n).1, false), e]
  have stay : ∀ k, rnds (edges bs) (n + k) = rnds (edges bs) n := fun k => by
    induction k with
    | zero => rfl
    | succ k ih =>
      show rnd (edges bs) (rnds (edges bs) (n + k)) = _
      rw [ih, e1]
  have e2 : (sB bs (n + 1)).1.f = rnds (edges bs) n := by
    rw [sB_f ok.ne]
    exact e1
  rw [e2, ← stay N]
  exact rnds_stay (edges_in ok.le) (Nat.le_add_left _ _) hm
/-- .. and each place but the first was come to by an edge at its very cost -/
theorem off_came {N : Nat} {bs : List Br} (ok : BrOk N bs) {n : Nat} (h : (sB bs (n + 1)).2 = false) {v : Nat} {a : Cost} (hv : v ≠ 0) (ha : (sB bs (n + 1)).1.f v = some a) :
    ∃ u idx bk b, (sB bs (n + 1)).1.g v = some (u, idx, bk) ∧ (sB bs (n + 1)).1.f u = some b ∧ a = stp b (b01 bk) ∧ Goes bs u v idx bk := by
  obtain ⟨u, idx, bk, b, e1, e2, e3, e4⟩ := (came_n ok.ne (n + 1)).by_ v a hv ha
  refine ⟨u, idx, bk, b, e1, e2, ?_, e4⟩
  obtain ⟨e, _⟩ := fold_off bs ((sB bs n).1, false) h
  have ef : (sB bs (n + 1)).1 = (sB bs n).1 := e
  have fix : rnd (edges bs) (sB bs (n + 1)).1.f = (sB bs (n + 1)).1.f := by
    have q := fold_f bs ok.ne ((sB bs n).1, false)
    rw [e] at q
    rw [ef]
    exact q.symm
  have he : (u, v, b01 bk) ∈ edges bs := by
    refine List.mem_flatMap.mpr ?_
    cases bk with
    | true =>
      unfold Goes at e4
      rw [if_pos rfl] at e4
      exact ⟨_, e4, by simp [b01]⟩
    | false =>
      unfold Goes at e4
      rw [if_neg Bool.false_ne_true] at e4
      exact ⟨_, e4, by simp [b01]⟩
  obtain ⟨c, ec, le⟩ := rnd_edge he e2
  rw [fix, ha] at ec
  cases ec
  exact cle_anti le e3
/-- a plan: from a place by bridges to another -/
inductive Chain (bs : List Br) (w : Nat) : Nat → List (Nat × Bool) → Prop
  | nil : Chain bs w w []
  | cons {u v idx : Nat} {bk : Bool} {r : List (Nat × Bool)} : Goes bs u v idx bk → Chain bs w v r → Chain bs w u ((idx, bk) :: r)
def backs (l : List (Nat × Bool)) : Nat := (l.filter (·.2)).length
theorem backs_snoc (l : List (Nat × Bool)) (idx : Nat) (bk : Bool) : backs (l ++ [(idx, bk)]) = backs l + b01 bk := by
  unfold backs
  rw [List.filter_append, List.length_append]
  cases bk <;> rfl
theorem backs_rev (l : List (Nat × Bool)) : backs l.reverse = backs l := by
  unfold backs
  rw [List.filter_reverse, List.length_reverse]
end Bf
end K21
end

/-! K21Path -/
section
set_option linter.all false
/-! paths as data: steps and kinds by their codes; a text that is read, pieces that fit, bridges -/
namespace K21
/-- a path: its steps, the kinds at its places -/
structure Pt where
  ls : List Nat
  ms : List (List Nat)
  deriving DecidableEq
def rend : List Nat → List (List Nat) → List Nat
  | [], m :: _ => m
  | l :: ls, m :: ms => m ++ l :: rend ls ms
  | _, [] => []
def Pt.cs (p : Pt) : List Nat := rend p.ls p.ms
structure Pt.Ok (p : Pt) : Prop where
  ne : p.ls ≠ []
  sm : ∀ c ∈ p.ls, 97 ≤ c ∧ c ≤ 122
  len : p.ms.length = p.ls.length + 1
  dg : ∀ m ∈ p.ms, ∀ d ∈ m, 48 ≤ d ∧ d ≤ 57
  up : ∀ m ∈ p.ms, m.Pairwise (· < ·)
  l8 : p.ls.length ≤ 8
  m8 : ∀ m ∈ p.ms, m.length ≤ 10
def isDg (c : Nat) : Bool := decide (48 ≤ c ∧ c ≤ 57)
/-- the reader's state: the steps, the kinds ahead of the last place, those at it -/
abbrev Rd3 := List Nat × List (List Nat) × List Nat
def rstep (t : Rd3) (c : Nat) : Rd3 := if isDg c then (t.1, t.2.1, t.2.2 ++ [c]) else (t.1 ++ [c], t.2.1 ++ [t.2.2], [])
def rfold (cs : List Nat) : Rd3 := cs.foldl rstep ([], [], [])
theorem rstep_dg {t : Rd3} {c : Nat} (h : 48 ≤ c ∧ c ≤ 57) : rstep t c = (t.1, t.2.1, t.2.2 ++ [c]) := by
  unfold rstep isDg
  rw [if_pos (decide_eq_true h)]
theorem rstep_sm {t : Rd3} {c : Nat} (h : 97 ≤ c ∧ c ≤ 122) : rstep t c = (t.1 ++ [c], t.2.1 ++ [t.2.2], []) := by
  unfold rstep isDg
  rw [if_neg (by simp; omega)]
theorem fold_dg : ∀ (m : List Nat) (F : List Nat) (G : List (List Nat)) (g : List Nat), (∀ d ∈ m, 48 ≤ d ∧ d ≤ 57) → m.foldl rstep (F, G, g) = (F, G, g ++ m)
  | [], _, _, _, _ => by simp
  | d :: m, F, G, g, h => by
    rw [List.foldl_cons, rstep_dg (h d List.mem_cons_self), fold_dg m F G (g ++ [d]) fun e he => h e (List.mem_cons_of_mem _ he)]
    simp
theorem fold_rend : ∀ (ls : List Nat) (ms : List (List Nat)) (F : List Nat) (G : List (List Nat)), ms.length = ls.length + 1 → (∀ c ∈ ls, 97 ≤ c ∧ c ≤ 122) → (∀ m ∈ ms, ∀ d ∈ m, 48 ≤ d ∧ d ≤ 57) →
    ∃ G' g, (rend ls ms).foldl rstep (F, G, []) = (F ++ ls, G', g) ∧ G' ++ [g] = G ++ ms
  | [], [m], F, G, _, _, hd => by
    refine ⟨G, m, ?_, rfl⟩
    show m.foldl rstep (F, G, []) = _
    rw [fold_dg m F G [] (hd m List.mem_cons_self)]
    simp
  | l :: ls, m :: ms, F, G, hl, hs, hd => by
    have hl' : ms.length = ls.length + 1 := by simpa using hl
    obtain ⟨G', g, e1, e2⟩ := fold_rend ls ms (F ++ [l]) (G ++ [m]) hl' (fun c hc => hs c (List.mem_cons_of_mem _ hc)) fun x hx => hd x (List.mem_cons_of_mem _ hx)
    refine ⟨G', g, ?_, ?_⟩
    · show (m ++ l :: rend ls ms).foldl rstep (F, G, []) = _
      rw [List.foldl_append, fold_dg m F G [] (hd m List.mem_cons_self), List.foldl_cons, rstep_sm (hs l List.mem_cons_self)]
      show (rend ls ms).foldl rstep (F ++ [l], G ++ [[] ++ m], []) = _
      rw [List.nil_append, e1]
      simp
    · rw [e2]
      simp
theorem rfold_ok {p : Pt} (h : p.Ok) : ∃ G g, rfold p.cs = (p.ls, G, g) ∧ G ++ [g] = p.ms := by
  obtain ⟨G, g, e1, e2⟩ := fold_rend p.ls p.ms [] [] h.len h.sm h.dg
  exact ⟨G, g, by rw [List.nil_append] at e1; exact e1, by simpa using e2⟩
theorem rend_mem : ∀ (ls : List Nat) (ms : List (List Nat)) {c : Nat}, c ∈ rend ls ms → c ∈ ls ∨ ∃ m ∈ ms, c ∈ m
  | [], [], _, h => by cases h
  | [], m :: ms, c, h => .inr ⟨m, List.mem_cons_self, h⟩
  | _ :: _, [], _, h => by cases h
  | l :: ls, m :: ms, c, h => by
    rcases List.mem_append.mp h with h | h
    · exact .inr ⟨m, List.mem_cons_self, h⟩
    · rcases List.mem_cons.mp h with e | h
      · exact .inl (by rw [e]; exact List.mem_cons_self)
      · rcases rend_mem ls ms h with h | ⟨x, hx, hc⟩
        · exact .inl (List.mem_cons_of_mem _ h)
        · exact .inr ⟨x, List.mem_cons_of_mem _ hx, hc⟩
/-- each sign of a path is a digit or a small letter -/
theorem Pt.Ok.sign {p : Pt} (h : p.Ok) {c : Nat} (hc : c ∈ p.cs) : (48 ≤ c ∧ c ≤ 57) ∨ (97 ≤ c ∧ c ≤ 122) := by
  rcases rend_mem p.ls p.ms hc with m | ⟨x, hx, m⟩
  · exact .inr (h.sm c m)
  · exact .inl (h.dg x hx c m)
theorem rend_len : ∀ (ls : List Nat) (ms : List (List Nat)), (∀ m ∈ ms, m.length ≤ 10) → (rend ls ms).length ≤ 11 * ls.length + 10
  | [], [], _ => Nat.zero_le _
  | [], m :: ms, h => by
    have := h m List.mem_cons_self
    show m.length ≤ _
    simp
    omega
  | _ :: _, [], _ => Nat.zero_le _
  | l :: ls, m :: ms, h => by
    have h1 := h m List.mem_cons_self
    have h2 := rend_len ls ms fun x hx => h x (List.mem_cons_of_mem _ hx)
    show (m ++ l :: rend ls ms).length ≤ _
    simp only [List.length_append, List.length_cons]
    omega
theorem Pt.Ok.cs_len {p : Pt} (h : p.Ok) : p.cs.length ≤ 98 := by
  have h1 := rend_len p.ls p.ms h.m8
  have h2 := h.l8
  unfold Pt.cs
  omega
theorem Pt.Ok.cs_ne {p : Pt} (h : p.Ok) : p.cs ≠ [] := by
  obtain ⟨ls, ms⟩ := p
  have h1 := h.ne
  have h2 := h.len
  cases ls with
  | nil => exact absurd rfl h1
  | cons l ls =>
    cases ms with
    | nil => simp at h2
    | cons m ms =>
      show m ++ l :: rend ls ms ≠ []
      simp
/-! ### a kept path that fits; bridges -/
def fitB (p k : Pt) (i : Nat) : Bool :=
  decide ((p.ls.drop i).take k.ls.length = k.ls) && (decide ((k.ms.drop 1).dropLast = (p.ms.drop (i + 1)).take (k.ls.length - 1)) &&
    ((k.ms.headD []).all (fun d => (p.ms.getD i []).contains d) && (k.ms.getLastD []).all (fun d => (p.ms.getD (i + k.ls.length) []).contains d)))
def brOne (p k : Pt) (idx : Nat) : List (Nat × Nat × Nat) := ((List.range (p.ls.length + 1 - k.ls.length)).filter (fitB p k)).map fun i => (idx, i, i + k.ls.length)
def k0 : Pt := ⟨[], []⟩
def brs (p : Pt) (ks : List Pt) : List (Nat × Nat × Nat) := (List.range ks.length).flatMap fun j => brOne p (ks.getD j k0) j
theorem brOne_len (p k : Pt) (idx : Nat) : (brOne p k idx).length ≤ p.ls.length + 1 := by
  unfold brOne
  rw [List.length_map]
  have h := List.length_filter_le (fitB p k) (List.range (p.ls.length + 1 - k.ls.length))
  rw [List.length_range] at h
  omega
theorem mem_brs {p : Pt} {ks : List Pt} {b : Nat × Nat × Nat} (h : b ∈ brs p ks) : ∃ k, ks[b.1]? = some k ∧ fitB p k b.2.1 = true ∧ b.2.2 = b.2.1 + k.ls.length ∧ b.2.1 + k.ls.length ≤ p.ls.length := by
  obtain ⟨j, hj, hm⟩ := List.mem_flatMap.mp h
  have lt := List.mem_range.mp hj
  obtain ⟨i, hi, e⟩ := List.mem_map.mp hm
  obtain ⟨hr, hf⟩ := List.mem_filter.mp hi
  have hr' := List.mem_range.mp hr
  have ek : ks[j]? = some (ks.getD j k0) := by
    rw [List.getD_eq_getElem?_getD, List.getElem?_eq_getElem lt]
    rfl
  subst e
  refine ⟨ks.getD j k0, ek, hf, rfl, ?_⟩
  show i + (ks.getD j k0).ls.length ≤ p.ls.length
  omega
theorem brs_take {p : Pt} (ks : List Pt) (n : Nat) : (List.range (n + 1)).flatMap (fun j => brOne p (ks.getD j k0) j) = (List.range n).flatMap (fun j => brOne p (ks.getD j k0) j) ++ brOne p (ks.getD n k0) n := by
  rw [List.range_succ, List.flatMap_append]
  simp
theorem brs_len {p : Pt} (ks : List Pt) : ∀ n, ((List.range n).flatMap fun j => brOne p (ks.getD j k0) j).length ≤ n * (p.ls.length + 1)
  | 0 => Nat.zero_le _
  | n + 1 => by
    rw [brs_take, List.length_append]
    have h1 := brs_len (p := p) ks n
    have h2 := brOne_len p (ks.getD n k0) n
    rw [Nat.succ_mul]
    omega
end K21
end

/-! K21Base -/
section
set_option Elab.async false
set_option linter.all false
set_option maxRecDepth 100000
set_option maxHeartbeats 4000000
/-! facts of the module, callees, texts and lists by their codes -/
namespace K21
open PySem PySem.Spec PyProof.Rows L2
open Evl (Ex)
def smallT : Str := "abcdefghijklmnopqrstuvwxyz"
def capT : Str := "ABCDEFGHIJKLMNOPQRSTUVWXYZ"
def digT : Str := "0123456789"
/-- what the module's names and the built-ins stand for -/
structure Fx (K : PySem.W.Frag) (mg : Str → Option Value) : Prop where
  n_isinstance : mg "isinstance" = none
  n_str : mg "str" = none
  n_int : mg "int" = none
  n_bool : mg "bool" = none
  n_list : mg "list" = none
  n_tuple : mg "tuple" = none
  n_dict : mg "dict" = none
  n_all : mg "all" = none
  n_any : mg "any" = none
  n_len : mg "len" = none
  n_zip : mg "zip" = none
  n_enumerate : mg "enumerate" = none
  n_range : mg "range" = none
  n_sorted : mg "sorted" = none
  n_min : mg "min" = none
  g_SMALL : ∃ t, mg "SMALL" = some (.str smallT t)
  g_CAPITAL : ∃ t, mg "CAPITAL" = some (.str capT t)
  g_DIGITS : ∃ t, mg "DIGITS" = some (.str digT t)
  g_MOST : ∃ t, mg "MOST_PATHS" = some (.int 8 t)
  g_MANNERS : ∃ a, mg "MANNERS" = some (.ref a) ∧ ∀ H, SqT K H a [.str "any", .str "matched", .str "turned"]
section
variable {X : Cx}
theorem Fx.c_SMALL (T : Fx X.K X.mg) {pos : Pos} (hg : Gl X "SMALL" := by rfl) : PE X (.Name "SMALL" pos) (tC (.str smallT)) := by
  obtain ⟨t, e⟩ := T.g_SMALL
  exact pe_glob hg e ⟨t, rfl⟩
theorem Fx.c_CAPITAL (T : Fx X.K X.mg) {pos : Pos} (hg : Gl X "CAPITAL" := by rfl) : PE X (.Name "CAPITAL" pos) (tC (.str capT)) := by
  obtain ⟨t, e⟩ := T.g_CAPITAL
  exact pe_glob hg e ⟨t, rfl⟩
theorem Fx.c_DIGITS (T : Fx X.K X.mg) {pos : Pos} (hg : Gl X "DIGITS" := by rfl) : PE X (.Name "DIGITS" pos) (tC (.str digT)) := by
  obtain ⟨t, e⟩ := T.g_DIGITS
  exact pe_glob hg e ⟨t, rfl⟩
theorem Fx.c_MOST_PATHS (T : Fx X.K X.mg) {pos : Pos} (hg : Gl X "MOST_PATHS" := by rfl) : PE X (.Name "MOST_PATHS" pos) (tC (.int 8)) := by
  obtain ⟨t, e⟩ := T.g_MOST
  exact pe_glob hg e ⟨t, rfl⟩
/-- the tuple of the manners: some address -/
def tMan (K : PySem.W.Frag) : TE := fun _ H Q => ∀ a, (∀ H, SqT K H a [.str "any", .str "matched", .str "turned"]) → Q (.ref a) H
theorem Fx.c_MANNERS (T : Fx X.K X.mg) {pos : Pos} (hg : Gl X "MANNERS" := by rfl) : PE X (.Name "MANNERS" pos) (tMan X.K) := by
  obtain ⟨a, e, h⟩ := T.g_MANNERS
  exact ⟨fun pins s σ H Q I q => (pe_glob (v := .ref a) hg e rfl).run pins s σ H Q I (q a h)⟩
end
/-- a built-in class as a value -/
theorem pe_tyn {X : Cx} {x : Str} {pos : Pos} (t : String) (hg : Gl X x) (hm : X.mg x = none) (hv : bootBuiltins x = some (.type t)) (hn : x ≠ "__name__" := by decide) (hd : (x == ("__debug__" : Str)) = false := by decide) : PE X (.Name x pos) (tC (.ty t)) :=
  pe_bltn (v := .ty t) hg hm hv rfl hn hd
/-! ### callees -/
/-- the module's name x is a def that keeps the promise sp -/
structure Cal (P : Program) (w : World) (K : PySem.W.Frag) (mg : Str → Option Value) (base : Heap) (x : Str) (k : Nat) (ps : List Str) (sp : Sp) : Prop where
  ex : ∃ f fd, FnOk P w K mg base CX0 k f fd ps sp ∧ mg x = some (.ref f) ∧ PySem.W.keepIn K (.ref f) = true ∧ Binds K fd ps []
theorem Cal.mono {P : Program} {w : World} {K : PySem.W.Frag} {mg : Str → Option Value} {base : Heap} {x : Str} {j k : Nat} {ps : List Str} {sp : Sp} (c : Cal P w K mg base x j ps sp) (h : j ≤ k) : Cal P w K mg base x k ps sp := by
  obtain ⟨f, fd, F, a, b, d⟩ := c.ex
  exact ⟨f, fd, F.mono h, a, b, d⟩
/-- the class x: its object C, its __init__ keeps the promise sp -/
structure Mkc (P : Program) (w : World) (K : PySem.W.Frag) (mg : Str → Option Value) (base : Heap) (x : Str) (C : Addr) (k : Nat) (ps : List Str) (sp : Sp) (dvs : List V) : Prop where
  ex : ∃ f fd ds, FnOk P w K mg base CX0 k f fd ps sp ∧ Mk K C f ∧ mg x = some (.ref C) ∧ Binds K fd ps ds ∧ Vals dvs ds
/-- the method m of the class at C -/
structure Mth (P : Program) (w : World) (K : PySem.W.Frag) (mg : Str → Option Value) (base : Heap) (C : Addr) (m : Str) (k : Nat) (ps : List Str) (sp : Sp) : Prop where
  ex : ∃ f fd, FnOk P w K mg base CX0 k f fd ps sp ∧ Cls K C ∧ Meth K C m f ∧ Binds K fd ps []
section
variable {X : Cx} {x : Str} {k : Nat} {ps : List Str} {sp : Sp} {e : Expr} {es : List Expr} {t : TA} {p pos : Pos}
theorem pe_cal (c : Cal X.prog X.w X.K X.mg X.base x k ps sp) (hr : Room k X.A) (hg : Gl X x) (ha : PA X (e :: es) t) (hdb : (x == ("__debug__" : Str)) = false := by decide)
    (he : starEach (e :: es) X.env = (false, eval e X.env) :: starEach es X.env := by rfl) (hpl : (backTo pos (starEach es X.env)).any (·.1) = false := by rfl) :
    PE X (.Call (.Name x p) (e :: es) [] pos) (tCall sp [] E0 t) := by
  obtain ⟨f, fd, F, a, b, d⟩ := c.ex
  exact pe_call F hr hg a b d .nil pass0 ha hdb he hpl
theorem pe_mkc {C : Addr} {dvs : List V} (c : Mkc X.prog X.w X.K X.mg X.base x C k ps sp dvs) (hr : Room (k + 1) X.A) (hg : Gl X x) (ha : PA X (e :: es) t) (hdb : (x == ("__debug__" : Str)) = false := by decide)
    (he : starEach (e :: es) X.env = (false, eval e X.env) :: starEach es X.env := by rfl) (hpl : (backTo pos (starEach es X.env)).any (·.1) = false := by rfl) :
    PE X (.Call (.Name x p) (e :: es) [] pos) (tMake C sp dvs E0 t) := by
  obtain ⟨f, fd, ds, F, M, a, b, d⟩ := c.ex
  exact pe_make M F hr hg a b d pass0 ha hdb he hpl
end
/-! ### texts by their codes -/
def S (l : List Nat) : Str := ⟨l.toArray⟩
/-- one sign -/
abbrev sg (c : Nat) : V := .str ⟨#[c]⟩
theorem S_cps (l : List Nat) : (S l).cps.toList = l := by
  unfold S
  simp
theorem S_size (l : List Nat) : (S l).cps.size = l.length := by
  unfold S
  simp
theorem S_len (l : List Nat) : (S l).length = l.length := by
  unfold S Str.length
  simp
theorem S_get (l : List Nat) (i : Nat) : (S l).cps[i]? = l[i]? := by
  unfold S
  simp
theorem S_inj {a b : List Nat} (h : S a = S b) : a = b := by
  have e := congrArg (fun z : Str => z.cps.toList) h
  simp only [S_cps] at e
  exact e
theorem S_app (a b : List Nat) : S a ++ S b = S (a ++ b) := by
  unfold S
  show Str.append _ _ = _
  unfold Str.append
  simp
theorem S_one (c : Nat) : (⟨#[c]⟩ : Str) = S [c] := rfl
def Pt.txt (p : Pt) : Str := S p.cs
theorem small_len {n : Nat} (h : n < 100000) : n < sizeLine := Nat.lt_of_lt_of_le h (by decide)
theorem sz3 {n : Nat} (h : n ≤ 100000) : n ≤ sizeLine := Nat.le_trans h (by decide)
theorem dig_list : digT.cps.toList = [48, 49, 50, 51, 52, 53, 54, 55, 56, 57] := by decide +kernel
theorem small_list : smallT.cps.toList = [97, 98, 99, 100, 101, 102, 103, 104, 105, 106, 107, 108, 109, 110, 111, 112, 113, 114, 115, 116, 117, 118, 119, 120, 121, 122] := by decide +kernel
theorem cap_list : capT.cps.toList = [65, 66, 67, 68, 69, 70, 71, 72, 73, 74, 75, 76, 77, 78, 79, 80, 81, 82, 83, 84, 85, 86, 87, 88, 89, 90] := by decide +kernel
theorem in_dig (c : Nat) : decide (c ∈ digT.cps.toList) = isDg c := by
  rw [dig_list]
  unfold isDg
  simp only [List.mem_cons, List.not_mem_nil, or_false]
  exact decide_eq_decide.mpr (by omega)
theorem in_small {c : Nat} (h : 97 ≤ c ∧ c ≤ 122) : decide (c ∈ smallT.cps.toList) = true := by
  rw [small_list]
  exact decide_eq_true (by simp only [List.mem_cons, List.not_mem_nil, or_false]; omega)
theorem in_cap {c : Nat} (h : c < 65 ∨ 90 < c) : decide (c ∈ capT.cps.toList) = false := by
  rw [cap_list]
  exact decide_eq_false (by simp only [List.mem_cons, List.not_mem_nil, or_false]; omega)
/-- the steps, the kinds of a path as lists of values -/
def vst (ls : List Nat) : List V := ls.map sg
def vmk (ms : List (List Nat)) : List V := ms.map fun m => .str (S m)
theorem vst_len (ls : List Nat) : (vst ls).length = ls.length := List.length_map ..
theorem vmk_len (ms : List (List Nat)) : (vmk ms).length = ms.length := List.length_map ..
/-! ### heaps -/
theorem ex_upd {H H' : Hp} {p : Addr} {o : HO} (e : Ex H H') (h : H p = none) : Ex H (upd H' p o) := e.mut h
theorem ex_new {H H' : Hp} {p : Addr} {o : HO} (e : Ex H H') (h : H' p = none) : Ex H (upd H' p o) := e.trans (Ex.new h)
theorem fresh {H H' : Hp} {p : Addr} (e : Ex H H') (h : H' p = none) : H p = none := Evl.fresh_back e h
/-- what stands elsewhere stands behind a store -/
theorem at_ne {H : Hp} {a p : Addr} {u o : HO} (h : H a = some u) (n : a ≠ p) : upd H p o a = some u := by
  rw [upd_ne n]
  exact h
/-- .. behind something new -/
theorem at_new {H : Hp} {a p : Addr} {u o : HO} (h : H a = some u) (n : H p = none) : upd H p o a = some u := at_ne h (ne_of_none h n)
/-- a fold, one turn on -/
theorem fold_take {α β : Type} (f : β → α → β) (b : β) {l : List α} {i : Nat} {x : α} (h : l[i]? = some x) : (l.take (i + 1)).foldl f b = f ((l.take i).foldl f b) x := by
  rw [List.take_add_one, h, List.foldl_append]
  rfl
theorem take_full {α : Type} (l : List α) : l.take l.length = l := List.take_length
/-! ### comprehensions that change nothing -/
open Evl (given given_yes given_no given_len)
/-- turn i keeps what keep says, the element is vf i; what stood ahead stands -/
theorem lc_pure {J : It} {n : Nat} {G : Hp → Prop} {Y : Nat → Hp → V → Hp → Prop} (w : Walk J n G Y) {g : TG} {tt : TT} {te : TE} {vs : List Nat} {σ : St} {H1 : Hp} {D : Addr} {Qd : Hp → Prop} (keep : Nat → Bool) (vf : Nat → V) (hz : n ≤ 100000) (hD : H1 D = none)
    (hG : ∀ H', Ex H1 H' → G H')
    (turn : ∀ (i : Nat) (x : V) (H' H2 : Hp) (Fin : V → Hp → Prop) (Fn : Hp → Prop), i < n → Ex H1 H' → Y i H' x H2 → (keep i = true → ∀ H4, Ex H' H4 → Fin (vf i) H4) → (keep i = false → ∀ H4, Ex H' H4 → Fn H4) →
      g x (wipe σ vs) H2 fun σ2 H2 => wipe σ2 vs = wipe σ vs ∧ tt σ2 H2 fun b H3 => if b = true then te σ2 H3 Fin else Fn H3)
    (done : ∀ H', Ex H1 H' → H' D = some (.lst (given n keep vf)) → Qd H') :
    ∃ W : Nat → Nat → Hp → Prop, (∃ m, W 0 m (upd H1 D (.lst []))) ∧ ∀ i m H, W i m H →
      (J.stop i H ∧ Qd H) ∨ (J.go i H ∧ ∃ Nx : Hp → Prop, (∀ H', Nx H' → ∃ m', m' < m ∧ W (i + 1) m' H') ∧ ∀ x H', J.yld i H x H' → g x (wipe σ vs) H' fun σ2 H2 => wipe σ2 vs = wipe σ vs ∧ tt σ2 H2 fun b H3 =>
        if b = true then te σ2 H3 fun y H4 => ∃ acc, H4 D = some (.lst acc) ∧ acc.length < sizeLine ∧ Nx (upd H4 D (.lst (acc ++ [y]))) else Nx H3) :=
  lc_it w (fun i H' => Ex H1 H' ∧ H' D = some (.lst (given i keep vf))) ⟨Ex.new hD, upd_same⟩ (fun i H' _ p => hG H' p.1)
    (fun i x H' H2 hi p y => turn i x H' H2 _ _ hi p.1 y (fun hk H4 e4 => ⟨given i keep vf, e4 D _ p.2, Nat.lt_of_le_of_lt (given_len i keep vf) (Nat.lt_of_lt_of_le (Nat.lt_of_lt_of_le hi hz) (by decide)), ex_upd (p.1.trans e4) hD, by rw [upd_same, given_yes hk]⟩)
      (fun hk H4 e4 => ⟨p.1.trans e4, by rw [given_no hk]; exact e4 D _ p.2⟩))
    (fun H' p => done H' p.1 p.2)
/-- a comprehension's turn with no tests -/
theorem tyes {σ : St} {H : Hp} {A B : Hp → Prop} (h : A H) : tYes σ H fun b H3 => if b = true then A H3 else B H3 := @iteT (A H) (B H) h
theorem given_all (n : Nat) (vf : Nat → V) : given n (fun _ => true) vf = (List.range n).map vf := by
  unfold given
  rw [List.filter_eq_self.mpr fun _ _ => rfl]
theorem given_bl (n : Nat) (b : Nat → Bool) : given n (fun _ => true) (fun i => V.bl (b i)) = ((List.range n).map b).map V.bl := by
  rw [given_all, List.map_map]
  rfl
theorem all_range (n : Nat) (b : Nat → Bool) (h : ∀ i, i < n → b i = true) : ((List.range n).map b).all id = true :=
  List.all_eq_true.mpr fun x hx => by
    obtain ⟨i, hi, e⟩ := List.mem_map.mp hx
    rw [← e]
    exact h i (List.mem_range.mp hi)
theorem any_range (n : Nat) (b : Nat → Bool) (h : ∀ i, i < n → b i = false) : ((List.range n).map b).any id = false :=
  List.any_eq_false.mpr fun x hx => by
    obtain ⟨i, hi, e⟩ := List.mem_map.mp hx
    rw [← e, show id (b i) = b i from rfl, h i (List.mem_range.mp hi)]
    exact Bool.false_ne_true
section
variable {J : It} {n : Nat} {G : Hp → Prop} {Y : Nat → Hp → V → Hp → Prop}
abbrev LcGoal (J : It) (g : TG) (te : TE) (vs : List Nat) (σ : St) (H1 : Hp) (D : Addr) (Qd : Hp → Prop) : Prop :=
  ∃ W : Nat → Nat → Hp → Prop, (∃ m, W 0 m (upd H1 D (.lst []))) ∧ ∀ i m H, W i m H →
      (J.stop i H ∧ Qd H) ∨ (J.go i H ∧ ∃ Nx : Hp → Prop, (∀ H', Nx H' → ∃ m', m' < m ∧ W (i + 1) m' H') ∧ ∀ x H', J.yld i H x H' → g x (wipe σ vs) H' fun σ2 H2 => wipe σ2 vs = wipe σ vs ∧ tYes σ2 H2 fun b H3 =>
        if b = true then te σ2 H3 fun y H4 => ∃ acc, H4 D = some (.lst acc) ∧ acc.length < sizeLine ∧ Nx (upd H4 D (.lst (acc ++ [y]))) else Nx H3)
/-- a comprehension with no tests -/
theorem lc_map (w : Walk J n G Y) {g : TG} {te : TE} {vs : List Nat} {σ : St} {H1 : Hp} {D : Addr} {Qd : Hp → Prop} (vf : Nat → V) (hz : n ≤ 100000) (hD : H1 D = none) (hG : ∀ H', Ex H1 H' → G H')
    (turn : ∀ (i : Nat) (x : V) (H' H2 : Hp) (Fin : V → Hp → Prop), i < n → Ex H1 H' → Y i H' x H2 → (∀ H4, Ex H' H4 → Fin (vf i) H4) → g x (wipe σ vs) H2 fun σ2 H2 => wipe σ2 vs = wipe σ vs ∧ te σ2 H2 Fin)
    (done : ∀ H', Ex H1 H' → H' D = some (.lst ((List.range n).map vf)) → Qd H') : LcGoal J g te vs σ H1 D Qd :=
  lc_pure w (fun _ => true) vf hz hD hG (fun i x H' H2 Fin Fn hi e y fy _ => turn i x H' H2 Fin hi e y (fy rfl)) fun H' e hl => done H' e (by rw [given_all] at hl; exact hl)
/-- all([..]), where each is true -/
theorem lc_allT {K : PySem.W.Frag} {σ0 : St} (w : Walk J n G Y) {g : TG} {te : TE} {vs : List Nat} {σ : St} {H1 : Hp} {D : Addr} {Q : VK} (hz : n ≤ 100000) (hD : H1 D = none) (hG : ∀ H', Ex H1 H' → G H')
    (turn : ∀ (i : Nat) (x : V) (H' H2 : Hp) (Fin : V → Hp → Prop), i < n → Ex H1 H' → Y i H' x H2 → (∀ H4, Ex H' H4 → Fin (.bl true) H4) → g x (wipe σ vs) H2 fun σ2 H2 => wipe σ2 vs = wipe σ vs ∧ te σ2 H2 Fin)
    (done : ∀ H', Ex H1 H' → Q (.bl true) H') : LcGoal J g te vs σ H1 D fun H => tNil σ0 H fun xs H2 => rAll K (V.ref D :: xs) H2 Q :=
  lc_map w (fun _ => .bl true) hz hD hG turn fun H' e hl => ⟨D, List.replicate n true, rfl, SqL.of (by rw [hl]; congr 2; simp [List.map_const']), by
    rw [show (List.replicate n true).all id = true from List.all_eq_true.mpr fun x hx => (List.mem_replicate.mp hx).2]
    exact done H' e⟩
/-- all([..]) -/
theorem lc_allB {K : PySem.W.Frag} {σ0 : St} (w : Walk J n G Y) {g : TG} {te : TE} {vs : List Nat} {σ : St} {H1 : Hp} {D : Addr} {Q : VK} (b : Nat → Bool) (hz : n ≤ 100000) (hD : H1 D = none) (hG : ∀ H', Ex H1 H' → G H')
    (turn : ∀ (i : Nat) (x : V) (H' H2 : Hp) (Fin : V → Hp → Prop), i < n → Ex H1 H' → Y i H' x H2 → (∀ H4, Ex H' H4 → Fin (.bl (b i)) H4) → g x (wipe σ vs) H2 fun σ2 H2 => wipe σ2 vs = wipe σ vs ∧ te σ2 H2 Fin)
    (done : ∀ H', Ex H1 H' → Q (.bl (((List.range n).map b).all id)) H') : LcGoal J g te vs σ H1 D fun H => tNil σ0 H fun xs H2 => rAll K (V.ref D :: xs) H2 Q :=
  lc_map w (fun i => .bl (b i)) hz hD hG turn fun H' e hl => ⟨D, (List.range n).map b, rfl, SqL.of (by rw [hl, List.map_map]; rfl), done H' e⟩
/-- any([..]), where none is true -/
theorem lc_anyF {K : PySem.W.Frag} {σ0 : St} (w : Walk J n G Y) {g : TG} {te : TE} {vs : List Nat} {σ : St} {H1 : Hp} {D : Addr} {Q : VK} (hz : n ≤ 100000) (hD : H1 D = none) (hG : ∀ H', Ex H1 H' → G H')
    (turn : ∀ (i : Nat) (x : V) (H' H2 : Hp) (Fin : V → Hp → Prop), i < n → Ex H1 H' → Y i H' x H2 → (∀ H4, Ex H' H4 → Fin (.bl false) H4) → g x (wipe σ vs) H2 fun σ2 H2 => wipe σ2 vs = wipe σ vs ∧ te σ2 H2 Fin)
    (done : ∀ H', Ex H1 H' → Q (.bl false) H') : LcGoal J g te vs σ H1 D fun H => tNil σ0 H fun xs H2 => rAny K (V.ref D :: xs) H2 Q :=
  lc_map w (fun _ => .bl false) hz hD hG turn fun H' e hl => ⟨D, List.replicate n false, rfl, SqL.of (by rw [hl]; congr 2; simp [List.map_const']), by
    rw [show (List.replicate n false).any id = false from List.any_eq_false.mpr fun x hx => by rw [(List.mem_replicate.mp hx).2]; exact Bool.false_ne_true]
    exact done H' e⟩
end
/-- each is a tuple of these -/
def Tups (H : Hp) (ys : List V) (fs : List (List V)) : Prop := ys.length = fs.length ∧ ∀ (j : Nat) (y : V) (f : List V), ys[j]? = some y → fs[j]? = some f → ∃ t, y = .ref t ∧ H t = some (.tup f)
theorem Tups.nil {H : Hp} : Tups H [] [] := ⟨rfl, fun _ _ _ h => nomatch h⟩
theorem Tups.ex {H H' : Hp} {ys : List V} {fs : List (List V)} (h : Tups H ys fs) (e : Ex H H') : Tups H' ys fs := ⟨h.1, fun j y f h1 h2 => by
  obtain ⟨t, e1, e2⟩ := h.2 j y f h1 h2
  exact ⟨t, e1, e t _ e2⟩⟩
theorem Tups.mono {H H' : Hp} {ys : List V} {fs : List (List V)} (h : Tups H ys fs) (e : ∀ t f, H t = some (.tup f) → H' t = some (.tup f)) : Tups H' ys fs := ⟨h.1, fun j y f h1 h2 => by
  obtain ⟨t, e1, e2⟩ := h.2 j y f h1 h2
  exact ⟨t, e1, e t _ e2⟩⟩
theorem Tups.app {H : Hp} {ys zs : List V} {fs gs : List (List V)} (h : Tups H ys fs) (h2 : Tups H zs gs) : Tups H (ys ++ zs) (fs ++ gs) := by
  refine ⟨by rw [List.length_append, List.length_append, h.1, h2.1], fun j y f e1 e2 => ?_⟩
  by_cases c : j < ys.length
  · rw [List.getElem?_append_left c] at e1
    rw [List.getElem?_append_left (by rw [← h.1]; exact c)] at e2
    exact h.2 j y f e1 e2
  · rw [List.getElem?_append_right (by omega)] at e1
    rw [List.getElem?_append_right (by rw [← h.1]; omega), ← h.1] at e2
    exact h2.2 _ y f e1 e2
theorem Tups.one {H : Hp} {t : Addr} {f : List V} (h : H t = some (.tup f)) : Tups H [.ref t] [f] := ⟨rfl, fun j y g e1 e2 => by
  cases j with
  | zero =>
    cases e1
    cases e2
    exact ⟨t, rfl, h⟩
  | succ j => cases e1⟩
theorem Tups.rev {H : Hp} {ys : List V} {fs : List (List V)} (h : Tups H ys fs) : Tups H ys.reverse fs.reverse := by
  refine ⟨by rw [List.length_reverse, List.length_reverse, h.1], fun j y f e1 e2 => ?_⟩
  have c : j < ys.length := by
    have := (List.getElem?_eq_some_iff.mp e1).1
    rwa [List.length_reverse] at this
  rw [List.getElem?_reverse c] at e1
  rw [List.getElem?_reverse (by rw [← h.1]; exact c), ← h.1] at e2
  exact h.2 _ y f e1 e2
/-- a tuple that stands is not changed by a store elsewhere -/
theorem tup_upd {H : Hp} {p : Addr} {o u : HO} (h : H p = some u) (n : ∀ f, u ≠ .tup f) : ∀ t f, H t = some (.tup f) → upd H p o t = some (.tup f) := fun t f e => at_ne e fun c => by
  rw [c, h] at e
  exact n f (Option.some.inj e)
/-- a comprehension of new tuples -/
theorem lc_tups {J : It} {n : Nat} {G : Hp → Prop} {Y : Nat → Hp → V → Hp → Prop} (w : Walk J n G Y) {g : TG} {tt : TT} {te : TE} {vs : List Nat} {σ : St} {H1 : Hp} {D : Addr} {Qd : Hp → Prop} (keep : Nat → Bool) (f : Nat → List V) (hz : n ≤ 100000) (hD : H1 D = none)
    (hG : ∀ H', Ex H1 H' → G H')
    (turn : ∀ (i : Nat) (x : V) (H' H2 : Hp) (Fin : V → Hp → Prop) (Fn : Hp → Prop), i < n → Ex H1 H' → Y i H' x H2 → (keep i = true → ∀ t H4, Ex H' H4 → H4 t = some (.tup (f i)) → Fin (.ref t) H4) → (keep i = false → ∀ H4, Ex H' H4 → Fn H4) →
      g x (wipe σ vs) H2 fun σ2 H2 => wipe σ2 vs = wipe σ vs ∧ tt σ2 H2 fun b H3 => if b = true then te σ2 H3 Fin else Fn H3)
    (done : ∀ H' ys, Ex H1 H' → H' D = some (.lst ys) → Tups H' ys (((List.range n).filter keep).map f) → Qd H') :
    ∃ W : Nat → Nat → Hp → Prop, (∃ m, W 0 m (upd H1 D (.lst []))) ∧ ∀ i m H, W i m H →
      (J.stop i H ∧ Qd H) ∨ (J.go i H ∧ ∃ Nx : Hp → Prop, (∀ H', Nx H' → ∃ m', m' < m ∧ W (i + 1) m' H') ∧ ∀ x H', J.yld i H x H' → g x (wipe σ vs) H' fun σ2 H2 => wipe σ2 vs = wipe σ vs ∧ tt σ2 H2 fun b H3 =>
        if b = true then te σ2 H3 fun y H4 => ∃ acc, H4 D = some (.lst acc) ∧ acc.length < sizeLine ∧ Nx (upd H4 D (.lst (acc ++ [y]))) else Nx H3) :=
  lc_it w (fun i H' => Ex H1 H' ∧ ∃ ys, H' D = some (.lst ys) ∧ ys.length ≤ i ∧ Tups H' ys (((List.range i).filter keep).map f)) ⟨Ex.new hD, [], upd_same, Nat.le_refl _, Tups.nil⟩ (fun i H' _ p => hG H' p.1)
    (fun i x H' H2 hi ⟨e, ys, hy, hl, ht⟩ y => turn i x H' H2 _ _ hi e y (fun hk t H4 e4 h4 => by
        have hy4 := e4 D _ hy
        refine ⟨ys, hy4, small_len (by omega), ex_upd (e.trans e4) hD, ys ++ [.ref t], upd_same, by rw [List.length_append]; exact Nat.succ_le_succ hl, ?_⟩
        rw [List.range_succ, List.filter_append, List.map_append, show List.filter keep [i] = [i] by rw [List.filter_cons, if_pos hk]; rfl]
        exact ((ht.ex e4).app (Tups.one h4)).mono (tup_upd hy4 fun _ h => nomatch h))
      (fun hk H4 e4 => ⟨e.trans e4, ys, e4 D _ hy, Nat.le_succ_of_le hl, by
        rw [List.range_succ, List.filter_append, List.map_append, show List.filter keep [i] = [] by rw [List.filter_cons, if_neg (by rw [hk]; exact Bool.false_ne_true)]; rfl]
        rw [List.map_nil, List.append_nil]
        exact ht.ex e4⟩))
    (fun H' ⟨e, ys, hy, _, ht⟩ => done H' ys e hy ht)
/-- the i-th of a list, as a function of the place -/
theorem range_get {α : Type} (d : α) (l : List α) : (List.range l.length).map (fun i => l.getD i d) = l := by
  refine List.ext_getElem (by simp) fun i h1 h2 => ?_
  simp [List.getElem_map, List.getElem_range, List.getD_eq_getElem?_getD, List.getElem?_eq_getElem h2]
/-- range(n) -/
theorem walk_r0 {n : Nat} : Walk (Itr 0 n) n (fun _ => True) (fun i H x H' => H' = H ∧ x = .int (i : Nat)) :=
  ⟨fun _ _ hi _ => hi, fun _ _ => Nat.le_refl _, fun i H x H' _ _ y => ⟨y.1, by rw [y.2, Int.zero_add]⟩⟩
/-- slices of texts, of lists -/
def cutL {α : Type} (l : List α) (lo hi : Option Int) : List α := (l.drop (HT.sIx l.length 0 lo)).take (HT.sIx l.length l.length hi - HT.sIx l.length 0 lo)
theorem cutS_codes (l : List Nat) (lo hi : Option Int) : cutS (S l) lo hi = S (cutL l lo hi) := by
  unfold cutS cutL
  rw [S_cps, S_len]
  rfl
theorem cutV_map {α : Type} (f : α → V) (l : List α) (lo hi : Option Int) : cutV (l.map f) lo hi = (cutL l lo hi).map f := by
  unfold cutV cutL
  rw [List.length_map, List.map_take, List.map_drop]
theorem sIx_n {n d k : Nat} (h : k ≤ n) : HT.sIx n d (some (k : Int)) = k := by
  rw [HT.sIx_nat]
  exact Nat.min_eq_left h
theorem cutL_from1 {α : Type} (l : List α) : cutL l (some 1) none = l.drop 1 := by
  unfold cutL
  rw [show HT.sIx l.length 0 (some 1) = min 1 l.length from HT.sIx_nat l.length 0 1, HT.sIx_none]
  cases l with
  | nil => rfl
  | cons x r =>
    have e : min 1 (x :: r).length = 1 := by
      rw [List.length_cons]
      omega
    rw [e]
    show List.take ((x :: r).length - 1) r = r
    rw [List.length_cons, Nat.add_sub_cancel]
    exact List.take_length
theorem cutL_to {α : Type} (l : List α) (k : Nat) : cutL l none (some (k : Int)) = l.take k := by
  unfold cutL
  rw [HT.sIx_none, HT.sIx_nat, List.drop_zero, Nat.sub_zero]
  rcases Nat.le_total k l.length with h | h
  · rw [Nat.min_eq_left h]
  · rw [Nat.min_eq_right h, List.take_length, List.take_of_length_le h]
theorem cutL_mid {α : Type} (l : List α) {i j : Nat} (hi : i ≤ j) (hj : j ≤ l.length) : cutL l (some (i : Int)) (some (j : Int)) = (l.drop i).take (j - i) := by
  unfold cutL
  rw [sIx_n (Nat.le_trans hi hj), sIx_n hj]
theorem cutL_in {α : Type} (l : List α) (h : 2 ≤ l.length) : cutL l (some 1) (some (-1)) = (l.drop 1).dropLast := by
  unfold cutL
  have e1 : HT.sIx l.length 0 (some 1) = 1 := (HT.sIx_nat l.length 0 1).trans (Nat.min_eq_left (by omega))
  have e2 : HT.sIx l.length l.length (some (-1)) = l.length - 1 := by
    show (if (-1 : Int) < 0 then (-1 + (l.length : Int)).toNat else min (-1 : Int).toNat l.length) = l.length - 1
    rw [if_pos (by decide)]
    omega
  rw [e1, e2, List.dropLast_eq_take, List.length_drop]
theorem atI_neg1 {α : Type} {l : List α} {x : α} (h : l.getLast? = some x) : atI l (-1) = some x := by
  obtain ⟨r, e⟩ := List.getLast?_eq_some_iff.mp h
  rw [e]
  exact atI_last r x
theorem atI_0 {α : Type} {l : List α} {x : α} (h : l.head? = some x) : atI l 0 = some x := by
  cases l with
  | nil => cases h
  | cons a r =>
    cases h
    exact atI_nat (j := 0) rfl
theorem ixN_neg1 {n k : Nat} (h : n = k + 1) : ixN n (-1) = some k := by
  unfold ixN
  rw [if_neg (by omega), if_pos (by omega)]
  congr 1
  omega
theorem set_last {α : Type} (l : List α) (x y : α) : (l ++ [x]).set l.length y = l ++ [y] := by simp
theorem vmk_snoc (l : List (List Nat)) (m : List Nat) : vmk (l ++ [m]) = vmk l ++ [.str (S m)] := by
  unfold vmk
  rw [List.map_append]
  rfl
theorem vst_snoc (l : List Nat) (c : Nat) : vst (l ++ [c]) = vst l ++ [sg c] := by
  unfold vst
  rw [List.map_append]
  rfl
theorem vmk_set (l : List (List Nat)) (m k : List Nat) : (vmk (l ++ [m])).set l.length (.str (S k)) = vmk (l ++ [k]) := by
  rw [vmk_snoc, vmk_snoc, ← vmk_len l]
  exact set_last _ _ _
theorem S_nil : (S [] : Str) = "" := by decide +kernel
theorem sz2 : 2 ≤ sizeLine := by decide
theorem szk {n : Nat} (h : n ≤ 1000 := by first | decide | simp) : n ≤ sizeLine := Nat.le_trans h (by decide)
theorem iteS {x : V} {A B : Prop} (h : A) : if decide (x = x) = true then A else B := by
  rw [decide_eq_true rfl]
  exact iteT h
theorem iteN {x y : V} {A B : Prop} (n : x ≠ y) (h : B) : if decide (x = y) = true then A else B := by
  rw [decide_eq_false n]
  exact iteF h
theorem getD_of {α : Type} {l : List α} {i : Nat} {x d : α} (h : l[i]? = some x) : l.getD i d = x := by
  rw [List.getD_eq_getElem?_getD, h]
  rfl
end K21
end

/-! K21Deep -/
section
set_option Elab.async false
set_option linter.all false
set_option maxRecDepth 100000
/-! lists of texts, tuples of ints as deep data -/
namespace K21
open PySem PySem.Spec PyProof.Rows L2
section
variable {K : PySem.W.Frag} {H : Hp}
theorem dp_strs : ∀ l : List Str, DpAll K H (l.map V.str) (l.map PyData.str)
  | [] => .nil
  | x :: l => .cons (.str x) (dp_strs l)
theorem dp_ints : ∀ l : List Int, DpAll K H (l.map V.int) (l.map PyData.int)
  | [] => .nil
  | x :: l => .cons (.int x) (dp_ints l)
theorem dpL {a : Addr} {l : List Str} (h : SqL K H a (l.map V.str)) : Dp K H (.ref a) (.list (l.map PyData.str)) := .lst h (dp_strs l)
theorem dpT {a : Addr} {l : List Int} (h : SqT K H a (l.map V.int)) : Dp K H (.ref a) (.tuple (l.map PyData.int)) := .tup h (dp_ints l)
theorem eqvAll_strs : ∀ l k : List Str, PyData.eqvAll (l.map PyData.str) (k.map PyData.str) = decide (l = k)
  | [], [] => by simp [PyData.eqvAll]
  | [], _ :: _ => by simp [PyData.eqvAll]
  | _ :: _, [] => by simp [PyData.eqvAll]
  | x :: l, y :: k => by
    simp only [List.map_cons, PyData.eqvAll, PyData.eqv, eqvAll_strs l k]
    by_cases h : x = y
    · by_cases h2 : l = k <;> simp [h, h2]
    · simp [h]
theorem eqv_strs (l k : List Str) : PyData.eqv (.list (l.map PyData.str)) (.list (k.map PyData.str)) = decide (l = k) := by
  simp only [PyData.eqv, eqvAll_strs]
theorem eqvAll_ints : ∀ l k : List Int, PyData.eqvAll (l.map PyData.int) (k.map PyData.int) = decide (l = k)
  | [], [] => by simp [PyData.eqvAll]
  | [], _ :: _ => by simp [PyData.eqvAll]
  | _ :: _, [] => by simp [PyData.eqvAll]
  | x :: l, y :: k => by
    simp only [List.map_cons, PyData.eqvAll, PyData.eqv, eqvAll_ints l k]
    by_cases h : x = y
    · by_cases h2 : l = k <;> simp [h, h2]
    · simp [h]
theorem eqv_ints (l k : List Int) : PyData.eqv (.tuple (l.map PyData.int)) (.tuple (k.map PyData.int)) = decide (l = k) := by
  simp only [PyData.eqv, eqvAll_ints]
theorem lay_strs : ∀ l : List Str, (∀ x ∈ l, PyData.strOk x = true) → PyData.canLayAll0 (l.map PyData.str) = true
  | [], _ => by simp [PyData.canLayAll0]
  | x :: l, h => by simp [PyData.canLayAll0, PyData.canLay0, h x List.mem_cons_self, lay_strs l fun y hy => h y (List.mem_cons_of_mem _ hy)]
theorem depth_strs : ∀ l : List Str, PyData.depthAll (l.map PyData.str) = 0
  | [] => by simp [PyData.depthAll]
  | x :: l => by simp [PyData.depthAll, PyData.depth, depth_strs l]
theorem lay_ints : ∀ l : List Int, PyData.canLayAll0 (l.map PyData.int) = true
  | [] => by simp [PyData.canLayAll0]
  | x :: l => by simp [PyData.canLayAll0, PyData.canLay0, lay_ints l]
theorem depth_ints : ∀ l : List Int, PyData.depthAll (l.map PyData.int) = 0
  | [] => by simp [PyData.depthAll]
  | x :: l => by simp [PyData.depthAll, PyData.depth, depth_ints l]
theorem shaped_strs {l : List Str} (h : ∀ x ∈ l, PyData.strOk x = true) : SeqAt.shaped (.list (l.map PyData.str)) = true := by
  show (PyData.canLay0 (.list (l.map PyData.str)) && decide (PyData.depth (.list (l.map PyData.str)) ≤ 64)) = true
  rw [Bool.and_eq_true]
  exact ⟨by simp only [PyData.canLay0]; exact lay_strs l h, decide_eq_true (by simp only [PyData.depth, depth_strs]; omega)⟩
theorem shaped_ints (l : List Int) : SeqAt.shaped (.tuple (l.map PyData.int)) = true := by
  show (PyData.canLay0 (.tuple (l.map PyData.int)) && decide (PyData.depth (.tuple (l.map PyData.int)) ≤ 64)) = true
  rw [Bool.and_eq_true]
  exact ⟨by simp only [PyData.canLay0]; exact lay_ints l, decide_eq_true (by simp only [PyData.depth, depth_ints]; omega)⟩
theorem strOk_S {l : List Nat} (h : ∀ c ∈ l, c < 1000) : PyData.strOk (S l) = true := by
  unfold PyData.strOk S
  rw [List.all_toArray]
  refine List.all_eq_true.mpr fun c hc => decide_eq_true ?_
  have := h c hc
  omega
theorem vst_str (ls : List Nat) : vst ls = (ls.map fun c => S [c]).map V.str := by
  unfold vst
  rw [List.map_map]
  rfl
theorem vmk_str (ms : List (List Nat)) : vmk ms = (ms.map S).map V.str := by
  unfold vmk
  rw [List.map_map]
  rfl
theorem map_dec {α β : Type} [DecidableEq α] [DecidableEq β] {f : α → β} (hf : ∀ a b, f a = f b → a = b) (l k : List α) : decide (l.map f = k.map f) = decide (l = k) :=
  decide_eq_decide.mpr ⟨fun e => by
    induction l generalizing k with
    | nil => cases k with
      | nil => rfl
      | cons y k => cases e
    | cons x l ih => cases k with
      | nil => cases e
      | cons y k =>
        rw [List.map_cons, List.map_cons, List.cons.injEq] at e
        rw [hf x y e.1, ih k e.2], fun e => by rw [e]⟩
theorem sg_inj (a b : Nat) (h : S [a] = S [b]) : a = b := by
  have e := S_inj h
  cases e
  rfl
/-- two lists of steps -/
theorem eq_vst {a b : Addr} {l k : List Nat} {Q : VK} (ha : SqL K H a (vst l)) (hb : SqL K H b (vst k)) (ga : ∀ c ∈ l, c < 1000) (gb : ∀ c ∈ k, c < 1000) (q : Q (.bl (decide (l = k))) H) : rEqD K (.ref a) (.ref b) H Q := by
  rw [vst_str] at ha hb
  refine ⟨_, _, dpL ha, dpL hb, shaped_strs fun x hx => ?_, shaped_strs fun x hx => ?_, ?_⟩
  · obtain ⟨c, hc, rfl⟩ := List.mem_map.mp hx
    exact strOk_S fun d hd => by rw [List.mem_singleton.mp hd]; exact ga c hc
  · obtain ⟨c, hc, rfl⟩ := List.mem_map.mp hx
    exact strOk_S fun d hd => by rw [List.mem_singleton.mp hd]; exact gb c hc
  · rw [eqv_strs, map_dec sg_inj]
    exact q
/-- two lists of kinds -/
theorem eq_vmk {a b : Addr} {l k : List (List Nat)} {Q : VK} (ha : SqL K H a (vmk l)) (hb : SqL K H b (vmk k)) (ga : ∀ m ∈ l, ∀ c ∈ m, c < 1000) (gb : ∀ m ∈ k, ∀ c ∈ m, c < 1000) (q : Q (.bl (decide (l = k))) H) : rEqD K (.ref a) (.ref b) H Q := by
  rw [vmk_str] at ha hb
  refine ⟨_, _, dpL ha, dpL hb, shaped_strs fun x hx => ?_, shaped_strs fun x hx => ?_, ?_⟩
  · obtain ⟨c, hc, rfl⟩ := List.mem_map.mp hx
    exact strOk_S (ga c hc)
  · obtain ⟨c, hc, rfl⟩ := List.mem_map.mp hx
    exact strOk_S (gb c hc)
  · rw [eqv_strs, map_dec fun a b => S_inj]
    exact q
theorem ne_vst {a b : Addr} {l k : List Nat} {Q : VK} (ha : SqL K H a (vst l)) (hb : SqL K H b (vst k)) (ga : ∀ c ∈ l, c < 1000) (gb : ∀ c ∈ k, c < 1000) (q : Q (.bl (!decide (l = k))) H) : rNeD K (.ref a) (.ref b) H Q := by
  obtain ⟨d, e, h1, h2, h3, h4, h5⟩ := eq_vst (Q := fun v _ => v = .bl (decide (l = k))) ha hb ga gb rfl
  refine ⟨d, e, h1, h2, h3, h4, ?_⟩
  rw [show PyData.eqv d e = decide (l = k) by injection h5]
  exact q
theorem ne_vmk {a b : Addr} {l k : List (List Nat)} {Q : VK} (ha : SqL K H a (vmk l)) (hb : SqL K H b (vmk k)) (ga : ∀ m ∈ l, ∀ c ∈ m, c < 1000) (gb : ∀ m ∈ k, ∀ c ∈ m, c < 1000) (q : Q (.bl (!decide (l = k))) H) : rNeD K (.ref a) (.ref b) H Q := by
  obtain ⟨d, e, h1, h2, h3, h4, h5⟩ := eq_vmk (Q := fun v _ => v = .bl (decide (l = k))) ha hb ga gb rfl
  refine ⟨d, e, h1, h2, h3, h4, ?_⟩
  rw [show PyData.eqv d e = decide (l = k) by injection h5]
  exact q
end
end K21
end

/-! K21Cost -/
section
set_option Elab.async false
set_option linter.all false
set_option maxRecDepth 100000
/-! dicts of a line: costs and where one came from -/
namespace K21
open PySem PySem.Spec PyProof.Rows L2
open Evl (Ex ex_l ex_t)
def natK : Key → Nat
  | .inl i => i.toNat
  | .inr _ => 0
/-- keys: unlike numbers up to N -/
structure KN (kvs : List (Key × V)) (N : Nat) : Prop where
  nd : (kvs.map (·.1)).Nodup
  key : ∀ k ∈ kvs.map (·.1), ∃ v : Nat, k = .inl (v : Int) ∧ v ≤ N
theorem KN.nil (N : Nat) : KN [] N := ⟨List.nodup_nil, fun _ h => nomatch h⟩
theorem KN.len {kvs : List (Key × V)} {N : Nat} (h : KN kvs N) : kvs.length ≤ N + 1 := by
  have nd : ((kvs.map (·.1)).map natK).Nodup := by
    have a := h.nd
    have b := h.key
    generalize kvs.map (·.1) = l at a b
    unfold List.Nodup at *
    rw [List.pairwise_map]
    refine List.Pairwise.imp_of_mem (fun {x y} hx hy n e => n ?_) a
    obtain ⟨v, e1, _⟩ := b x hx
    obtain ⟨u, e2, _⟩ := b y hy
    subst e1 e2
    have e : v = u := e
    rw [e]
  have l := Bf.nodup_len (N + 1) nd fun x hx => by
    obtain ⟨k, hk, rfl⟩ := List.mem_map.mp hx
    obtain ⟨v, rfl, hv⟩ := h.key k hk
    show v < N + 1
    omega
  rw [List.length_map, List.length_map] at l
  exact l
theorem keys_put (kvs : List (Key × V)) (k : Key) (v : V) : (putK kvs k v).map (·.1) = kvs.map (·.1) ∧ k ∈ kvs.map (·.1) ∨ (putK kvs k v).map (·.1) = kvs.map (·.1) ++ [k] ∧ k ∉ kvs.map (·.1) := by
  unfold putK
  by_cases h : (kvs.any fun kv => decide (kv.1 = k)) = true
  · rw [if_pos h]
    refine .inl ⟨?_, ?_⟩
    · rw [List.map_map]
      refine List.map_congr_left fun kv _ => ?_
      show (if kv.1 = k then (kv.1, v) else kv).1 = kv.1
      split <;> rfl
    · obtain ⟨kv, m, e⟩ := List.any_eq_true.mp h
      exact List.mem_map.mpr ⟨kv, m, of_decide_eq_true e⟩
  · rw [if_neg h]
    refine .inr ⟨by rw [List.map_append]; rfl, fun m => h ?_⟩
    obtain ⟨kv, m, e⟩ := List.mem_map.mp m
    exact List.any_eq_true.mpr ⟨kv, m, decide_eq_true e⟩
theorem KN.put {kvs : List (Key × V)} {N v : Nat} (h : KN kvs N) (hv : v ≤ N) (x : V) : KN (putK kvs (.inl (v : Int)) x) N := by
  rcases keys_put kvs (.inl (v : Int)) x with ⟨e, _⟩ | ⟨e, n⟩
  · exact ⟨by rw [e]; exact h.nd, by rw [e]; exact h.key⟩
  · refine ⟨?_, ?_⟩
    · rw [e, List.nodup_append]
      exact ⟨h.nd, by simp, fun a ha b hb q => n (by rw [List.mem_singleton.mp hb] at q; rw [← q]; exact ha)⟩
    · rw [e]
      intro k hk
      rcases List.mem_append.mp hk with m | m
      · exact h.key k m
      · exact ⟨v, List.mem_singleton.mp m, hv⟩
def way (bk : Bool) : Str := if bk = true then "back" else "on"
/-- the costs -/
def CD (H : Hp) (kvs : List (Key × V)) (f : Bf.Tab) : Prop := ∀ v : Nat, (f v = none ∧ valV kvs (.inl (v : Int)) = none) ∨ ∃ (a : Bf.Cost) (t : Addr), f v = some a ∧ valV kvs (.inl (v : Int)) = some (.ref t) ∧ H t = some (.tup [.int (a.1 : Nat), .int (a.2 : Nat)])
/-- where one came from -/
def CM (H : Hp) (kvs : List (Key × V)) (g : Nat → Option (Nat × Nat × Bool)) : Prop := ∀ (v u idx : Nat) (bk : Bool), g v = some (u, idx, bk) → ∃ t t2 : Addr, valV kvs (.inl (v : Int)) = some (.ref t) ∧ H t = some (.tup [.int (u : Nat), .ref t2]) ∧ H t2 = some (.tup [.int (idx : Nat), .str (way bk)])
/-- tuples stay -/
def Tk (H H' : Hp) : Prop := ∀ t f, H t = some (.tup f) → H' t = some (.tup f)
theorem Tk.of {H H' : Hp} (e : Ex H H') : Tk H H' := fun t f h => e t _ h
theorem Tk.trans {H H1 H2 : Hp} (a : Tk H H1) (b : Tk H1 H2) : Tk H H2 := fun t f h => b t f (a t f h)
theorem CD.ex {H H' : Hp} {kvs : List (Key × V)} {f : Bf.Tab} (h : CD H kvs f) (e : Tk H H') : CD H' kvs f := fun v => by
  rcases h v with q | ⟨a, t, h1, h2, h3⟩
  · exact .inl q
  · exact .inr ⟨a, t, h1, h2, e t _ h3⟩
theorem CM.ex {H H' : Hp} {kvs : List (Key × V)} {g : Nat → Option (Nat × Nat × Bool)} (h : CM H kvs g) (e : Tk H H') : CM H' kvs g := fun v u idx bk hg => by
  obtain ⟨t, t2, h1, h2, h3⟩ := h v u idx bk hg
  exact ⟨t, t2, h1, e t _ h2, e t2 _ h3⟩
theorem inl_ne {a b : Nat} (h : a ≠ b) : ¬ (Sum.inl (a : Int) : Key) = Sum.inl (b : Int) := fun e => h (by injection e with e; omega)
theorem CD.put {H : Hp} {kvs : List (Key × V)} {f : Bf.Tab} (h : CD H kvs f) {v : Nat} {k : Bf.Cost} {t : Addr} (ht : H t = some (.tup [.int (k.1 : Nat), .int (k.2 : Nat)])) : CD H (putK kvs (.inl (v : Int)) (.ref t)) (Bf.put f v k) := fun x => by
  rw [valV_put]
  by_cases e : x = v
  · subst e
    rw [if_pos rfl, Bf.put_same]
    exact .inr ⟨k, t, rfl, rfl, ht⟩
  · rw [if_neg (inl_ne e), Bf.put_ne f k e]
    exact h x
theorem CM.put {H : Hp} {kvs : List (Key × V)} {g : Nat → Option (Nat × Nat × Bool)} (h : CM H kvs g) {v u idx : Nat} {bk : Bool} {t t2 : Addr} (ht : H t = some (.tup [.int (u : Nat), .ref t2])) (h2 : H t2 = some (.tup [.int (idx : Nat), .str (way bk)])) :
    CM H (putK kvs (.inl (v : Int)) (.ref t)) (fun x => if x = v then some (u, idx, bk) else g x) := fun x u' idx' bk' hg => by
  have hg : (if x = v then some (u, idx, bk) else g x) = some (u', idx', bk') := hg
  rw [valV_put]
  by_cases e : x = v
  · subst e
    rw [if_pos rfl] at hg
    cases hg
    rw [if_pos rfl]
    exact ⟨t, t2, rfl, ht, h2⟩
  · rw [if_neg e] at hg
    rw [if_neg (inl_ne e)]
    exact h x u' idx' bk' hg
/-- a line -/
structure Ln (C : Addr) (H : Hp) (x bl cd cm : Addr) (N : Nat) (s : Bf.Bs) : Prop where
  ex : ∃ dx kvs kvs2, H x = some (.ins C dx [("last", .int (N : Nat)), ("bridges", .ref bl), ("costs", .ref cd), ("came", .ref cm)]) ∧ H cd = some (.dK kvs) ∧ KN kvs N ∧ CD H kvs s.f ∧ H cm = some (.dK kvs2) ∧ KN kvs2 N ∧ CM H kvs2 s.g
  ne : cd ≠ cm
theorem Ln.up {C : Addr} {H H' : Hp} {x bl cd cm : Addr} {N : Nat} {s : Bf.Bs} (h : Ln C H x bl cd cm N s) (e : Ex H H') : Ln C H' x bl cd cm N s := by
  obtain ⟨dx, kvs, kvs2, h1, h2, h3, h4, h5, h6, h7⟩ := h.ex
  exact ⟨⟨dx, kvs, kvs2, e _ _ h1, e _ _ h2, h3, h4.ex (.of e), e _ _ h5, h6, h7.ex (.of e)⟩, h.ne⟩
/-- all but two dicts stays -/
def Fr (cd cm : Addr) (H H' : Hp) : Prop := ∀ a o, H a = some o → a ≠ cd → a ≠ cm → H' a = some o
theorem Fr.of {cd cm : Addr} {H H' : Hp} (e : Ex H H') : Fr cd cm H H' := fun a o h _ _ => e a o h
theorem Fr.trans {cd cm : Addr} {H H1 H2 : Hp} (a : Fr cd cm H H1) (b : Fr cd cm H1 H2) : Fr cd cm H H2 := fun x o h n m => b x o (a x o h n m) n m
theorem Fr.cd {cd cm : Addr} {H : Hp} {o : HO} : Fr cd cm H (upd H cd o) := fun a u h n _ => at_ne h n
theorem Fr.cm {cd cm : Addr} {H : Hp} {o : HO} : Fr cd cm H (upd H cm o) := fun a u h _ n => at_ne h n
theorem Fr.ex {cd cm : Addr} {H0 H H' : Hp} (f : Fr cd cm H H') (e : Ex H0 H) (h1 : H0 cd = none) (h2 : H0 cm = none) : Ex H0 H' := fun a o h => f a o (e a o h) (ne_of_none h h1) (ne_of_none h h2)
theorem lexLt_clt (a b : Bf.Cost) : HT.lexLt [((a.1 : Nat) : Int), ((a.2 : Nat) : Int)] [((b.1 : Nat) : Int), ((b.2 : Nat) : Int)] = Bf.clt a b := by
  rw [HT.lexLt_cons, HT.lexLt_cons, HT.lexLt_nil_nil]
  unfold Bf.clt
  by_cases h : a.1 = b.1
  · rw [if_pos (by rw [h])]
    by_cases h2 : a.2 = b.2
    · rw [if_pos (by rw [h2])]
      exact (decide_eq_false (by omega)).symm
    · rw [if_neg (by omega)]
      exact decide_eq_decide.mpr (by omega)
  · rw [if_neg (by omega)]
    exact decide_eq_decide.mpr (by omega)
theorem Fr.tk {cd cm : Addr} {H H' : Hp} (f : Fr cd cm H H') {C x bl : Addr} {N : Nat} {s : Bf.Bs} (h : Ln C H x bl cd cm N s) : Tk H H' := fun t g e => by
  obtain ⟨dx, kvs, kvs2, _, h2, _, _, h5, _⟩ := h.ex
  exact f t _ e (fun q => by rw [q, h2] at e; cases e) (fun q => by rw [q, h5] at e; cases e)
theorem cost_le {E : List Bf.Edge} {N : Nat} (hE : ∀ e ∈ E, e.2.1 ≤ N) {m : Nat} (hm : N ≤ m) {v : Nat} {a : Bf.Cost} (h : Bf.rnds E m v = some a) : a.2 ≤ N := by
  obtain ⟨l, w⟩ := Bf.rnds_sound E m v a h
  obtain ⟨b, l', w', le, hb⟩ := Bf.short hE a.2 w (Nat.le_refl _)
  obtain ⟨c, e, le'⟩ := Bf.rnds_reach E w' m (Nat.le_trans hb hm)
  rw [h] at e
  cases e
  have := Bf.cle_anti le le'
  rw [← this]
  exact hb
theorem CD.zero {H : Hp} {t : Addr} (ht : H t = some (.tup [.int 0, .int 0])) : CD H [(.inl 0, .ref t)] Bf.t0 := fun v => by
  by_cases h : v = 0
  · subst h
    exact .inr ⟨(0, 0), t, rfl, rfl, ht⟩
  · refine .inl ⟨if_neg h, ?_⟩
    exact (valV_neg (p := ((.inl 0 : Key), V.ref t)) (k := (.inl (v : Int))) (fun e => h (by injection e with e; omega))).trans rfl
theorem KN.zero (N : Nat) (x : V) : KN [(.inl 0, x)] N := ⟨by simp, fun k hk => ⟨0, by simpa using hk, Nat.zero_le _⟩⟩
end K21
end

/-! K21Pair -/
section
set_option Elab.async false
set_option linter.all false
set_option maxRecDepth 100000
/-! two costs as data -/
namespace K21
open PySem PySem.Spec PyProof.Rows L2
def costD (a : Bf.Cost) : PyData := .tuple [.int (a.1 : Nat), .int (a.2 : Nat)]
theorem costD_lt (a b : Bf.Cost) : PySem.W.dataLt (costD a) (costD b) = Bf.clt a b := by
  unfold PySem.W.dataLt costD
  simp only [PySem.W.keyToks, PySem.W.keyToksAll, List.cons_append, List.nil_append]
  rw [PyProof.Rows.lex_self]
  unfold Bf.clt
  by_cases h : a.1 = b.1
  · rw [h, PyProof.Rows.lex_self, PyProof.Rows.lex_self]
    by_cases h2 : a.2 = b.2
    · rw [h2, PyProof.Rows.lex_self, PyProof.Rows.lex_irrefl]
      exact (decide_eq_false (by omega)).symm
    · rw [PyProof.Rows.lex_diff (O := itemOrd) (fun e => h2 (by injection e with e; omega))]
      exact decide_eq_decide.mpr (by omega)
  · rw [PyProof.Rows.lex_diff (O := itemOrd) (fun e => h (by injection e with e; omega))]
    exact decide_eq_decide.mpr (by omega)
theorem costD_dp {K : PySem.W.Frag} {H : Hp} {t : Addr} {a : Bf.Cost} (h : H t = some (.tup [.int (a.1 : Nat), .int (a.2 : Nat)])) : Dp K H (.ref t) (costD a) := dpT (l := [((a.1 : Nat) : Int), ((a.2 : Nat) : Int)]) (.of h)
theorem costD_alike (a b : Bf.Cost) : PySem.W.AlikeAll [costD a, costD b] := by
  refine ⟨fun x hx y hy => ?_, fun x hx => ?_⟩
  · simp only [List.mem_cons, List.not_mem_nil, or_false] at hx hy
    rcases hx with rfl | rfl <;> rcases hy with rfl | rfl <;> simp [costD, PySem.W.alike, PySem.W.alikeAll]
  · simp only [List.mem_cons, List.not_mem_nil, or_false] at hx
    rcases hx with rfl | rfl <;> exact fun e => nomatch e
theorem costD_depth (a b : Bf.Cost) : PyData.depthAll [costD a, costD b] ≤ 60 := by
  simp [costD, PyData.depthAll, PyData.depth]
/-- min of the two, as the law takes it -/
theorem rl_min (f : Bf.Tab) (u v c : Nat) {a : Bf.Cost} (ha : f u = some a) : Bf.rl f u v c = Bf.put f v (match f v with | none => Bf.stp a c | some b => if Bf.clt (Bf.stp a c) b = true then Bf.stp a c else b) := by
  unfold Bf.rl Bf.gain
  rw [ha]
  cases hb : f v with
  | none => rfl
  | some b =>
    show (match (if Bf.clt (Bf.stp a c) b = true then some (Bf.stp a c) else none) with | none => f | some k => Bf.put f v k) = Bf.put f v (if Bf.clt (Bf.stp a c) b = true then Bf.stp a c else b)
    by_cases h : Bf.clt (Bf.stp a c) b = true
    · rw [if_pos h, if_pos h]
    · rw [if_neg h, if_neg h]
      funext x
      show f x = _
      by_cases e : x = v
      · rw [e, Bf.put_same, hb]
      · rw [Bf.put_ne f _ e]
theorem rl_none (f : Bf.Tab) (u v c : Nat) (ha : f u = none) : Bf.rl f u v c = f := by
  unfold Bf.rl Bf.gain
  rw [ha]
end K21
end

/-! K21Txt -/
section
set_option Elab.async false
set_option linter.all false
set_option maxRecDepth 100000
/-! texts: joined signs, rising digits, small letters -/
namespace K21
open PySem PySem.Spec PyProof.Rows L2
theorem joinL_nil : ∀ ys : List (List Nat), TL.joinL [] ys = ys.flatten
  | [] => rfl
  | [p] => by simp [TL.joinL]
  | p :: q :: r => by
    rw [TL.joinL, joinL_nil (q :: r), List.nil_append]
    rfl
theorem join0 (ys : List (List Nat)) : Txt.join "" (ys.map S) = S ys.flatten := by
  rw [← S_nil, ← joinL_nil]
  exact SX.join_S [] ys
theorem sorted_ext : ∀ {l k : List Nat}, l.Pairwise (· < ·) → k.Pairwise (· < ·) → (∀ x, x ∈ l ↔ x ∈ k) → l = k
  | [], [], _, _, _ => rfl
  | [], y :: k, _, _, h => absurd ((h y).mpr List.mem_cons_self) List.not_mem_nil
  | x :: l, [], _, _, h => absurd ((h x).mp List.mem_cons_self) List.not_mem_nil
  | x :: l, y :: k, hl, hk, h => by
    obtain ⟨hl1, hl2⟩ := List.pairwise_cons.mp hl
    obtain ⟨hk1, hk2⟩ := List.pairwise_cons.mp hk
    have e : x = y := by
      rcases List.mem_cons.mp ((h x).mp List.mem_cons_self) with e | m
      · exact e
      · rcases List.mem_cons.mp ((h y).mpr List.mem_cons_self) with e | m2
        · exact e.symm
        · have := hk1 x m
          have := hl1 y m2
          omega
    subst e
    rw [sorted_ext hl2 hk2 fun z => ⟨fun m => ?_, fun m => ?_⟩]
    · rcases List.mem_cons.mp ((h z).mp (List.mem_cons_of_mem _ m)) with e | q
      · exact absurd (hl1 z m) (by omega)
      · exact q
    · rcases List.mem_cons.mp ((h z).mpr (List.mem_cons_of_mem _ m)) with e | q
      · exact absurd (hk1 z m) (by omega)
      · exact q
theorem dig_up : digT.cps.toList.Pairwise (· < ·) := by
  rw [dig_list]
  decide
theorem dig_filter {m : List Nat} (up : m.Pairwise (· < ·)) (dg : ∀ d ∈ m, 48 ≤ d ∧ d ≤ 57) : digT.cps.toList.filter (fun d => decide (d ∈ m)) = m := by
  refine sorted_ext (dig_up.filter _) up fun x => ?_
  rw [List.mem_filter]
  refine ⟨fun h => of_decide_eq_true h.2, fun h => ⟨?_, decide_eq_true h⟩⟩
  have q := in_dig x
  rw [show isDg x = true from decide_eq_true (dg x h)] at q
  exact of_decide_eq_true q
theorem lower_sg {c : Nat} (h : 97 ≤ c ∧ c ≤ 122) : Txt.lower ⟨#[c]⟩ = ⟨#[c]⟩ := by
  have e := SX.lower_S (a := [c]) (by simp; omega)
  have l : PyProof.Rows.lo1 c = c := by
    unfold PyProof.Rows.lo1
    rw [if_neg (by omega)]
  rw [List.map_cons, List.map_nil, l] at e
  exact e
/-- a list's kept places, its elements -/
theorem filter_get {α : Type} (d : α) (l : List α) (f : α → Bool) : ((List.range l.length).filter fun i => f (l.getD i d)).map (fun i => l.getD i d) = l.filter f := by
  have h : (List.range l.length).map (fun i => l.getD i d) = l := range_get d l
  conv => rhs; rw [← h]
  rw [List.filter_map]
  rfl
theorem flat_one (l : List Nat) : (l.map fun c => [c]).flatten = l := by
  induction l with
  | nil => rfl
  | cons x l ih => rw [List.map_cons, List.flatten_cons, ih]; rfl
theorem vst_S (l : List Nat) : vst l = (l.map fun c => [c]).map fun c => V.str (S c) := by
  rw [List.map_map]
  rfl
theorem given_filter (l : List Nat) (f : Nat → Bool) : Evl.given l.length (fun j => f (l.getD j 0)) (fun j => sg (l.getD j 0)) = vst (l.filter f) := by
  unfold Evl.given vst
  rw [← filter_get 0 l f, List.map_map]
  rfl
theorem sum_len : ∀ ms : List (List Nat), (((ms.map S).map (·.length)).sum) = ms.flatten.length
  | [] => rfl
  | m :: ms => by
    rw [List.map_cons, List.map_cons, List.sum_cons, sum_len ms, List.flatten_cons, List.length_append]
    congr 1
theorem rJn_vmk {K : PySem.W.Frag} {H : Hp} {D : Addr} {ms : List (List Nat)} {Q : VK} (h : SqL K H D (vmk ms)) (hz : ms.flatten.length ≤ 10000) (q : Q (.str (S ms.flatten)) H) : rJn K (.str "") [.ref D] H Q := by
  refine ⟨_, D, ms.map S, rfl, rfl, .inl (by rw [← vmk_str]; exact h), ?_, ?_⟩
  · rw [sum_len, show (Str.ofString "").length = 0 from by decide +kernel, Nat.mul_zero]
    omega
  · rw [join0]
    exact q
theorem rJn_vst {K : PySem.W.Frag} {H : Hp} {D : Addr} {m : List Nat} {Q : VK} (h : SqL K H D (vst m)) (hz : m.length ≤ 10000) (q : Q (.str (S m)) H) : rJn K (.str "") [.ref D] H Q := by
  refine rJn_vmk (ms := m.map fun c => [c]) ?_ ?_ ?_
  · rw [show vmk (m.map fun c => [c]) = vst m by unfold vmk vst; rw [List.map_map]; rfl]
    exact h
  · rw [flat_one]
    exact hz
  · rw [flat_one]
    exact q
end K21
end

/-! K21W1 -/
section
set_option Elab.async false
set_option linter.all false
set_option maxRecDepth 100000
set_option maxHeartbeats 4000000
/-! small defs of the program -/
namespace K21
open PySem PySem.Spec PyProof.Rows L2
open Evl (Ex)
abbrev FnP (K : PySem.W.Frag) (x qual : Str) (st : Stmt) (f : Addr) (fd : FuncData) : Prop := FunD K x qual (defArgs st) (defBody st) (defScope st) [] [] f fd
/-- a value handed back, what stood stands -/
def RetV (v : V) (H : Hp) (Q : VK) : Prop := ∀ H', Ex H H' → Q v H'
/-- a new list handed back -/
def RetL (xs : List V) (H : Hp) (Q : VK) : Prop := ∀ p H', H p = none → Ex H H' → H' p = some (.lst xs) → Q (.ref p) H'
theorem RetV.here {v : V} {H : Hp} {Q : VK} (k : RetV v H Q) : Q v H := k H (Ex.refl H)
theorem tup2_any {K : PySem.W.Frag} {t : String} (h : kitB t "list" = some true ∨ kitB t "list" = some false ∧ kitB t "tuple" = some true) : PySem.W.kitAny K (.type t) [.type "list", .type "tuple"] = some true := by
  rcases h with h | ⟨h, h2⟩
  · exact kitAny_cons (kit_ty h) (fun z => nomatch z) fun _ => rfl
  · exact kitAny_cons (kit_ty h) (fun _ => kitAny_cons (kit_ty h2) (fun z => nomatch z) fun _ => rfl) fun z => nomatch z
def sp_is_integer (K : PySem.W.Frag) : Sp := fun vs H Q _ => ∃ i : Int, vs = [.int i] ∧ RetV (.bl true) H Q
/-- a list or a tuple -/
def sp_is_list (K : PySem.W.Frag) : Sp := fun vs H Q _ => ∃ (a : Addr) (t : String), vs = [.ref a] ∧ (t = "list" ∨ t = "tuple") ∧ TyX K H (.ref a) (.type t) ∧ (∀ p o, H p = none → TyX K (upd H p o) (.ref a) (.type t)) ∧ RetV (.bl true) H Q
def sp_is_manner (K : PySem.W.Frag) : Sp := fun vs H Q _ => vs = [.str "any"] ∧ RetV (.bl true) H Q
def sp_is_letter (K : PySem.W.Frag) : Sp := fun vs H Q _ => ∃ (c : Nat) (z : Str), vs = [.str ⟨#[c]⟩, .str z] ∧ c ∈ z.cps.toList ∧ RetV (.bl true) H Q
def sp_is_thing (K : PySem.W.Frag) : Sp := fun vs H Q _ => ∃ i n : Int, vs = [.int i, .int n] ∧ 0 ≤ i ∧ i < n ∧ RetV (.bl true) H Q
/-- a path's kinds at a place rise -/
def sp_is_rising (K : PySem.W.Frag) : Sp := fun vs H Q _ => ∃ m : List Nat, vs = [.str (S m)] ∧ m.Pairwise (· < ·) ∧ m.length ≤ 100 ∧ RetV (.bl true) H Q
section
variable {P : Program} {w : World} {K : PySem.W.Frag} {mg : Str → Option Value} {base : Heap}
-- is_integer: 0:thing
theorem sc_is_integer : FnScope ["thing"] ["thing"] (defScope s_is_integer) := ⟨rfl, rfl, rfl, by decide +kernel, rfl, by decide +kernel, by decide +kernel⟩
theorem ok_is_integer {f : Addr} {fd : FuncData} (F : FnP K "is_integer" "is_integer" s_is_integer f fd) (m : mg "is_integer" = some (.ref f)) (T : Fx K mg)   : Cal P w K mg base "is_integer" 1 ["thing"] (sp_is_integer K) := by
  refine ⟨f, fd, ?_, m, F.kp, F.bindsN fun _ _ _ _ _ _ us hl => match us, hl with | [_], _ => rfl⟩
  refine F.ok sc_is_integer (fun vs H Q E h => by obtain ⟨i, rfl, k⟩ := h; rfl) (fun cdv A outer s H vs Q E hr h => ?_)
  obtain ⟨i, rfl, k⟩ := h
  have nd := sc_is_integer.nd
  have hu := hu_of hr
  refine ⟨_, PSs.nox (pss_one (ps_ret (pe_and (pe_callB call_isi (by rfl) T.n_isinstance (by decide +kernel) (pa_cons (pv 0) (pa_cons (pe_tyn "int" (by rfl) T.n_int (by decide +kernel)) pa_nil))) (pe_one (pe_not (pe_callB call_isi (by rfl) T.n_isinstance (by decide +kernel) (pa_cons (pv 0) (pa_cons (pe_tyn "bool" (by rfl) T.n_bool (by decide +kernel)) pa_nil)))))))), ?_⟩
  refine ⟨_, rfl, _, _, _, _, true, rfl, .ty _, .base (.int _), kit_ty (by decide +kernel), true, rfl, iteT ?_⟩
  exact ⟨_, rfl, _, _, _, _, false, rfl, .ty _, .base (.int _), kit_ty (by decide +kernel), false, rfl, k.here⟩
-- is_list: 0:thing
theorem sc_is_list : FnScope ["thing"] ["thing"] (defScope s_is_list) := ⟨rfl, rfl, rfl, by decide +kernel, rfl, by decide +kernel, by decide +kernel⟩
theorem ok_is_list {f : Addr} {fd : FuncData} (F : FnP K "is_list" "is_list" s_is_list f fd) (m : mg "is_list" = some (.ref f)) (T : Fx K mg)   : Cal P w K mg base "is_list" 1 ["thing"] (sp_is_list K) := by
  refine ⟨f, fd, ?_, m, F.kp, F.bindsN fun _ _ _ _ _ _ us hl => match us, hl with | [_], _ => rfl⟩
  refine F.ok sc_is_list (fun vs H Q E h => by obtain ⟨a, t, rfl, ht, ty, ty2, k⟩ := h; rfl) (fun cdv A outer s H vs Q E hr h => ?_)
  obtain ⟨a, t, rfl, ht, ty, ty2, k⟩ := h
  have nd := sc_is_list.nd
  have hu := hu_of hr
  refine ⟨_, PSs.nox (pss_one (ps_ret (pe_callB call_isiT (by rfl) T.n_isinstance (by decide +kernel) (pa_cons (pv 0) (pa_cons (pe_tup (pa_cons (pe_tyn "list" (by rfl) T.n_list (by decide +kernel)) (pa_cons (pe_tyn "tuple" (by rfl) T.n_tuple (by decide +kernel)) pa_nil))) pa_nil))))), ?_⟩
  refine ⟨_, rfl, by show 2 ≤ sizeLine; decide, fun p np => ?_⟩
  refine ⟨_, p, _, _, [.type "list", .type "tuple"], true, rfl, upd_same, .cons (.ty _) (.cons (.ty _) .nil), ty2 p _ np, ?_, k _ (Ex.new np)⟩
  rcases ht with rfl | rfl
  · exact tup2_any (.inl (by decide +kernel))
  · exact tup2_any (.inr ⟨by decide +kernel, by decide +kernel⟩)
-- is_manner: 0:thing
theorem sc_is_manner : FnScope ["thing"] ["thing"] (defScope s_is_manner) := ⟨rfl, rfl, rfl, by decide +kernel, rfl, by decide +kernel, by decide +kernel⟩
theorem ok_is_manner {f : Addr} {fd : FuncData} (F : FnP K "is_manner" "is_manner" s_is_manner f fd) (m : mg "is_manner" = some (.ref f)) (T : Fx K mg)   : Cal P w K mg base "is_manner" 1 ["thing"] (sp_is_manner K) := by
  refine ⟨f, fd, ?_, m, F.kp, F.bindsN fun _ _ _ _ _ _ us hl => match us, hl with | [_], _ => rfl⟩
  refine F.ok sc_is_manner (fun vs H Q E h => by obtain ⟨rfl, k⟩ := h; rfl) (fun cdv A outer s H vs Q E hr h => ?_)
  obtain ⟨rfl, k⟩ := h
  have nd := sc_is_manner.nd
  have hu := hu_of hr
  refine ⟨_, PSs.nox (pss_one (ps_ret (pe_and (pe_callB call_isi (by rfl) T.n_isinstance (by decide +kernel) (pa_cons (pv 0) (pa_cons (pe_tyn "str" (by rfl) T.n_str (by decide +kernel)) pa_nil))) (pe_one (pe_cmpR op_in_seq (pv 0) T.c_MANNERS (by rfl)))))), ?_⟩
  refine ⟨_, rfl, _, _, _, _, true, rfl, .ty _, .base (.str _), kit_ty (by decide +kernel), true, rfl, iteT ?_⟩
  refine ⟨_, rfl, fun a ha => ⟨a, _, rfl, .inr (ha H), rfl, rfl, ?_⟩⟩
  have e : inV (.str "any") [.str "any", .str "matched", .str "turned"] = true := by decide +kernel
  show Q (.bl (if false = true then !inV (.str "any") [.str "any", .str "matched", .str "turned"] else inV (.str "any") [.str "any", .str "matched", .str "turned"])) H
  rw [if_neg Bool.false_ne_true, e]
  exact k.here
-- is_letter: 0:thing, 1:letters
theorem sc_is_letter : FnScope ["thing", "letters"] ["thing", "letters"] (defScope s_is_letter) := ⟨rfl, rfl, rfl, by decide +kernel, rfl, by decide +kernel, by decide +kernel⟩
theorem ok_is_letter {f : Addr} {fd : FuncData} (F : FnP K "is_letter" "is_letter" s_is_letter f fd) (m : mg "is_letter" = some (.ref f)) (T : Fx K mg)   : Cal P w K mg base "is_letter" 1 ["thing", "letters"] (sp_is_letter K) := by
  refine ⟨f, fd, ?_, m, F.kp, F.bindsN fun _ _ _ _ _ _ us hl => match us, hl with | [_, _], _ => rfl⟩
  refine F.ok sc_is_letter (fun vs H Q E h => by obtain ⟨c, z, rfl, hc, k⟩ := h; rfl) (fun cdv A outer s H vs Q E hr h => ?_)
  obtain ⟨c, z, rfl, hc, k⟩ := h
  have nd := sc_is_letter.nd
  have hu := hu_of hr
  refine ⟨_, PSs.nox (pss_one (ps_ret (pe_and (pe_callB call_isi (by rfl) T.n_isinstance (by decide +kernel) (pa_cons (pv 0) (pa_cons (pe_tyn "str" (by rfl) T.n_str (by decide +kernel)) pa_nil))) (pe_and (pe_cmpR op_eq (pe_callB call_len_str (by rfl) T.n_len (by decide +kernel) (pa_cons (pv 0) pa_nil)) pe_int (nomark _)) (pe_one (pe_cmpR op_in_sign (pv 0) (pv 1) rfl)))))), ?_⟩
  refine ⟨_, rfl, _, _, _, _, true, rfl, .ty _, .base (.str _), kit_ty (by decide +kernel), true, rfl, iteT ?_⟩
  refine ⟨_, rfl, _, rfl, (by show 1 ≤ sizeLine; decide), rfl, true, rfl, iteT ?_⟩
  refine ⟨_, rfl, _, rfl, c, z, rfl, rfl, ?_⟩
  rw [decide_eq_true hc]
  exact k.here
-- is_thing: 0:thing, 1:many
theorem sc_is_thing : FnScope ["thing", "many"] ["thing", "many"] (defScope s_is_thing) := ⟨rfl, rfl, rfl, by decide +kernel, rfl, by decide +kernel, by decide +kernel⟩
theorem ok_is_thing {f : Addr} {fd : FuncData} (F : FnP K "is_thing" "is_thing" s_is_thing f fd) (m : mg "is_thing" = some (.ref f)) (T : Fx K mg)  (C_is_integer : Cal P w K mg base "is_integer" 1 ["thing"] (sp_is_integer K)) : Cal P w K mg base "is_thing" 2 ["thing", "many"] (sp_is_thing K) := by
  refine ⟨f, fd, ?_, m, F.kp, F.bindsN fun _ _ _ _ _ _ us hl => match us, hl with | [_, _], _ => rfl⟩
  refine F.ok sc_is_thing (fun vs H Q E h => by obtain ⟨i, n, rfl, h0, h1, k⟩ := h; rfl) (fun cdv A outer s H vs Q E hr h => ?_)
  obtain ⟨i, n, rfl, h0, h1, k⟩ := h
  have nd := sc_is_thing.nd
  have hu := hu_of hr
  refine ⟨_, PSs.nox (pss_one (ps_ret (pe_and (pe_cal C_is_integer (hr.mono (by decide)) (by rfl) (pa_cons (pv 0) pa_nil)) (pe_one (pe_chain op_le op_lt pe_int (pv 0) (pv 1)))))), ?_⟩
  refine ⟨_, rfl, i, rfl, fun H1 e1 => ⟨true, rfl, iteT ?_⟩⟩
  refine ⟨_, rfl, 0, i, rfl, rfl, true, by show V.bl (decide (0 ≤ i)) = _; rw [decide_eq_true h0], iteT ?_⟩
  refine ⟨_, rfl, i, n, rfl, rfl, ?_⟩
  show Q (.bl (decide (i < n))) H1
  rw [decide_eq_true h1]
  exact k H1 e1
-- is_rising: 0:text, 1:one, 2:other
theorem sc_is_rising : FnScope ["text", "one", "other"] ["text"] (defScope s_is_rising) := ⟨rfl, rfl, rfl, by decide +kernel, rfl, by decide +kernel, by decide +kernel⟩
theorem ok_is_rising {f : Addr} {fd : FuncData} (F : FnP K "is_rising" "is_rising" s_is_rising f fd) (m : mg "is_rising" = some (.ref f)) (T : Fx K mg)   : Cal P w K mg base "is_rising" 1 ["text"] (sp_is_rising K) := by
  refine ⟨f, fd, ?_, m, F.kp, F.bindsN fun _ _ _ _ _ _ us hl => match us, hl with | [_], _ => rfl⟩
  refine F.ok sc_is_rising (fun vs H Q E h => by obtain ⟨m, rfl, up, hz, k⟩ := h; rfl) (fun cdv A outer s H vs Q E hr h => ?_)
  obtain ⟨m, rfl, up, hz, k⟩ := h
  have nd := sc_is_rising.nd
  have hu := hu_of hr
  refine ⟨_, PSs.nox (pss_one (ps_ret (pe_callB (cr_all rfl) (by rfl) T.n_all (by decide +kernel) (pa_cons (pe_lc (own := [("one", 1), ("other", 2)]) (g := (gTup K 2 (gCons (gName 1) (gCons (gName 2) gNil)))) (by rfl) nd (pi_zipS (by rfl) T.n_zip (pa_cons (pv 0) (pa_cons (pe_slice sl_str (pv 0) (po_some pe_int) po_none) pa_nil))) (blkOk_by (N := ["text", "one", "other"]) (sc := defScope s_is_rising) (own := [("one", 1), ("other", 2)]) (by decide +kernel)) (fun _ _ _ _ _ => (pg_tup rfl (pgs_cons (pg_name (i := 1) nd rfl (Or.inl rfl) (.inr rfl)) (pgs_cons (pg_name (i := 2) nd rfl (Or.inl rfl) (.inr rfl)) pgs_nil)))) (fun _ _ _ _ _ => pts_nil) (fun _ _ _ _ _ => (pe_cmpR op_lt_str (pv 1) (pv 2) (nomark _)))) pa_nil)))), ?_⟩
  refine ⟨_, rfl, _, rfl, 1, rfl, S m, rfl, sz3 (by rw [S_len]; omega), S m, _, rfl, fun D hD => ?_⟩
  have ec : cutS (S m) (some 1) none = S (m.drop 1) := by rw [cutS_codes, cutL_from1]
  rw [ec]
  have eb : ∀ i, i < m.length - 1 → decide (([m.getD i 0] : List Nat) < [(m.drop 1).getD i 0]) = true := fun i hi => by
    have h1 : i < m.length := by omega
    have h2 : i + 1 < m.length := by omega
    have lt : m[i] < m[i + 1] := List.pairwise_iff_getElem.mp up i (i + 1) h1 h2 (Nat.lt_succ_self i)
    rw [List.getD_eq_getElem?_getD, List.getD_eq_getElem?_getD, List.getElem?_drop, Nat.add_comm 1 i, List.getElem?_eq_getElem h1, List.getElem?_eq_getElem h2]
    exact decide_eq_true (List.cons_lt_cons_iff.mpr (.inl lt))
  refine lc_pure (walk_zipS (n := m.length - 1) (by rw [S_size, S_size, List.length_drop]; omega)) (fun _ => true) (fun i => .bl (decide (([m.getD i 0] : List Nat) < [(m.drop 1).getD i 0]))) (by omega) hD (fun _ _ => trivial) (fun i x H' H2 Fin Fn hi e1 y fy fn => ?_) fun H' e1 hl => ?_
  · obtain ⟨t, c, d, rfl, nt, rfl, hc, hd⟩ := y
    rw [S_get] at hc hd
    refine ⟨t, _, rfl, .inl (.inl upd_same), rfl, _, _, rfl, _, _, rfl, rfl, rfl, ?_⟩
    refine tyes ?_
    refine ⟨_, rfl, _, rfl, _, _, rfl, rfl, ?_⟩
    have q := fy rfl _ (Ex.new nt (o := .tup [sg c, sg d]))
    rw [List.getD_eq_getElem?_getD, hc, List.getD_eq_getElem?_getD, hd] at q
    exact q
  · rw [given_bl] at hl
    refine ⟨D, _, rfl, SqL.of hl, ?_⟩
    rw [all_range _ _ eb]
    exact k H' e1
end
end K21
end

/-! K21W2 -/
section
set_option Elab.async false
set_option linter.all false
set_option maxRecDepth 100000
set_option maxHeartbeats 4000000
/-! a path's text is read -/
namespace K21
open PySem PySem.Spec PyProof.Rows L2
open Evl (Ex ex_l ex_t)
/-- a path's text in: a new tuple of its steps and its kinds out -/
def sp_parsed (K : PySem.W.Frag) : Sp := fun vs H Q _ => ∃ p : Pt, vs = [.str p.txt] ∧ p.Ok ∧
  ∀ t a b H', Ex H H' → H t = none → H a = none → H b = none → a ≠ b → H' t = some (.tup [.ref a, .ref b]) → H' a = some (.lst (vst p.ls)) → H' b = some (.lst (vmk p.ms)) → Q (.ref t) H'
section
variable {P : Program} {w : World} {K : PySem.W.Frag} {mg : Str → Option Value} {base : Heap}
-- parsed: 0:path, 1:found, 2:signs, 3:sign, 4:has_backs, 5:mark, 6:step
theorem sc_parsed : FnScope ["path", "found", "signs", "sign", "has_backs", "mark", "step"] ["path"] (defScope s_parsed) := ⟨rfl, rfl, rfl, by decide +kernel, rfl, by decide +kernel, by decide +kernel⟩
theorem ok_parsed {f : Addr} {fd : FuncData} (F : FnP K "parsed" "parsed" s_parsed f fd) (m : mg "parsed" = some (.ref f)) (T : Fx K mg)  (C_is_rising : Cal P w K mg base "is_rising" 1 ["text"] (sp_is_rising K)) : Cal P w K mg base "parsed" 2 ["path"] (sp_parsed K) := by
  refine ⟨f, fd, ?_, m, F.kp, F.bindsN fun _ _ _ _ _ _ us hl => match us, hl with | [_], _ => rfl⟩
  refine F.ok sc_parsed (fun vs H Q E h => by obtain ⟨p, rfl, hp, k⟩ := h; rfl) (fun cdv A outer s H vs Q E hr h => ?_)
  obtain ⟨p, rfl, hp, k⟩ := h
  have nd := sc_parsed.nd
  have hu := hu_of hr
  refine ⟨_, PSs.nox (pss_cons (ps_if (PW.pt (pw_or (pt_not (pt_val (pe_callB call_isi (by rfl) T.n_isinstance (by decide +kernel) (pa_cons (pv 0) (pa_cons (pe_tyn "str" (by rfl) T.n_str (by decide +kernel)) pa_nil))))) (pw_or1 (pt_cmpR op_eq (pv 0) pe_str (nomark _)))))
        (pss_one (ps_ret pe_non))
        pss_nil) -- if not isinstance(path, str) or path == '':
      (pss_cons (ps_par (i := 1) (j := 2) (by rfl) nd rfl rfl (by decide) rfl rfl (pa_cons (pe_lst pa_nil) (pa_cons (pe_lst (pa_cons pe_str pa_nil)) pa_nil)) (by rfl)) -- found, signs = ([], [''])
      (pss_cons (ps_for PassesOwn.never rfl (pi_str (pv 0)) (pg_name (i := 3) nd rfl (Or.inl rfl))
        (pss_one (ps_if (pt_cmpR op_in_sign (pv 3) T.c_DIGITS rfl)
          (pss_one (ps_augS (pv 2) (pe_un un_neg pe_int) get_list (pv 3) ip_addS set_list))
          (pss_one (ps_if (PW.pt (pw_or (pt_cmpR op_in_sign (pv 3) T.c_SMALL rfl) (pw_or1 (pt_cmpR op_in_sign (pv 3) T.c_CAPITAL rfl))))
            (pss_cons (ps_expr (pe_bm PySem.F.plainAttrs_list PySem.F.slot_list_append PySem.F.type_list_append mt_append (pv 1) (pa_cons (pv 3) pa_nil))) -- found.append(sign)
            (pss_one (ps_expr (pe_bm PySem.F.plainAttrs_list PySem.F.slot_list_append PySem.F.type_list_append mt_append (pv 2) (pa_cons pe_str pa_nil)))))
            (pss_one (ps_ret pe_non))))))) -- for sign in path:
      (pss_cons (ps_if (PW.pt (pw_or (pt_cmpR (op_eqD hr.units) (pv 1) (pe_lst pa_nil) (nomark _)) (pw_or1 (pt_not (pt_val (pe_callB (cr_all rfl) (by rfl) T.n_all (by decide +kernel) (pa_cons (pe_lc (own := [("mark", 5)]) (g := (gName 5)) (by rfl) nd (pi_list (pv 2)) (blkOk_by (N := ["path", "found", "signs", "sign", "has_backs", "mark", "step"]) (sc := defScope s_parsed) (own := [("mark", 5)]) (by decide +kernel)) (fun _ _ _ _ _ => (pg_name (i := 5) nd rfl (Or.inl rfl) (.inr rfl))) (fun _ _ _ _ _ => pts_nil) (fun _ _ _ _ _ => (pe_cal C_is_rising (hr.mono (by decide)) (by rfl) (pa_cons (pv 5) pa_nil)))) pa_nil)))))))
        (pss_one (ps_ret pe_non))
        pss_nil) -- if found == [] or not all([is_rising(mark) for mark in signs]):
      (pss_cons (ps_set (i := 4) nd rfl (Or.inl rfl) (pe_callB (cr_any rfl) (by rfl) T.n_any (by decide +kernel) (pa_cons (pe_lc (own := [("step", 6)]) (g := (gName 6)) (by rfl) nd (pi_list (pv 1)) (blkOk_by (N := ["path", "found", "signs", "sign", "has_backs", "mark", "step"]) (sc := defScope s_parsed) (own := [("step", 6)]) (by decide +kernel)) (fun _ _ _ _ _ => (pg_name (i := 6) nd rfl (Or.inl rfl) (.inr rfl))) (fun _ _ _ _ _ => pts_nil) (fun _ _ _ _ _ => (pe_cmpR op_in_sign (pv 6) T.c_CAPITAL rfl))) pa_nil))) -- has_backs = any([step in CAPITAL for step in found])
      (pss_one (ps_ret (pe_ifExp (PW.pt (pw_and (pt_val (pv 4)) (pw_and1 (pt_val (pe_callB (cr_any rfl) (by rfl) T.n_any (by decide +kernel) (pa_cons (pe_lc (own := [("mark", 5)]) (g := (gName 5)) (by rfl) nd (pi_list (pv 2)) (blkOk_by (N := ["path", "found", "signs", "sign", "has_backs", "mark", "step"]) (sc := defScope s_parsed) (own := [("mark", 5)]) (by decide +kernel)) (fun _ _ _ _ _ => (pg_name (i := 5) nd rfl (Or.inl rfl) (.inr rfl))) (fun _ _ _ _ _ => pts_nil) (fun _ _ _ _ _ => (pe_cmpR op_ne (pv 5) pe_str (nomark _)))) pa_nil)))))) pe_non (pe_tup (pa_cons (pv 1) (pa_cons (pv 2) pa_nil))))))))))), ?_⟩
  have hl := hp.cs_len
  have hn : p.cs ≠ [] := hp.cs_ne
  have ne : decide (V.str p.txt = V.str "") = false := decide_eq_false fun e => hn (by
    injection e with e
    have := congrArg (fun z : Str => z.cps.toList) e
    rw [show p.txt = S p.cs from rfl, S_cps] at this
    exact this.trans rfl)
  refine ⟨_, rfl, _, _, _, _, true, rfl, .ty _, .base (.str _), kit_ty (by decide +kernel), true, rfl, ?_⟩
  refine iteF ⟨_, rfl, rfl, _, rfl, ?_⟩
  show (if decide (V.str p.txt = V.str "") = true then _ else _)
  rw [ne]
  refine iteF ⟨by decide, fun a na => ⟨by decide, fun b nb => ⟨_, _, rfl, ?_⟩⟩⟩
  have ab : a ≠ b := ne_of_none upd_same nb
  have hs0 : p.cs.length = p.txt.cps.size := by rw [Pt.txt, S_size]
  refine ⟨_, rfl, _, rfl, ?_⟩
  refine for_it walk_str (fun i σ H' => Ex H H' ∧ (∃ x, σ = [some (.str p.txt), some (.ref a), some (.ref b), x, none, none, none]) ∧ H' a = some (.lst (vst (rfold (p.cs.take i)).1)) ∧ H' b = some (.lst (vmk ((rfold (p.cs.take i)).2.1 ++ [(rfold (p.cs.take i)).2.2]))) ∧ (rfold (p.cs.take i)).1.length ≤ i ∧ (rfold (p.cs.take i)).2.1.length ≤ i ∧ (rfold (p.cs.take i)).2.2.length ≤ i)
    ⟨(Ex.new na).trans (Ex.new nb), ⟨_, rfl⟩, at_ne upd_same ab, upd_same, Nat.le_refl _, Nat.le_refl _, Nat.le_refl _⟩ (fun _ _ _ _ _ => trivial) ?_ ?_
  · rintro i x σ H0 H' hi ⟨e1, ⟨y, rfl⟩, ha, hb, l1, l2, l3⟩ ⟨rfl, c, hc, rfl⟩
    rw [show p.txt = S p.cs from rfl, S_get] at hc
    have hcm : c ∈ p.cs := List.mem_of_getElem? hc
    rw [rfold, fold_take _ _ hc, ← rfold]
    generalize rfold (p.cs.take i) = t at *
    obtain ⟨t1, t2, t3⟩ := t
    have hi' : i < 98 := by rw [← hs0] at hi; omega
    refine ⟨_, rfl, _, _, rfl, rfl, _, rfl, ?_⟩
    rw [in_dig]
    have fa : H a = none := na
    have fb : H b = none := fresh (Ex.new na) nb
    have l1 : t1.length ≤ i := l1
    have l2 : t2.length ≤ i := l2
    have l3 : t3.length ≤ i := l3
    rcases hp.sign hcm with h | h
    · rw [rstep_dg h]
      rw [show isDg c = true from decide_eq_true h]
      refine iteT ⟨_, rfl, 1, rfl, _, _, _, _, rfl, rfl, .of hb, by rw [vmk_snoc]; exact atI_last _ _, ?_⟩
      refine ⟨_, rfl, _, _, rfl, rfl, sz3 (by rw [S_len]; show _ + 1 ≤ _; omega), _, _, _, t2.length, rfl, rfl, hb, ixN_neg1 (by rw [vmk_len, List.length_append]; rfl), ?_⟩
      refine ⟨ex_upd e1 fb, ⟨_, rfl⟩, at_ne ha ab, ?_, Nat.le_succ_of_le l1, Nat.le_succ_of_le l2, ?_⟩
      · rw [upd_same, S_one, S_app, vmk_set]
      · rw [List.length_append]
        exact Nat.succ_le_succ l3
    · rw [rstep_sm h]
      rw [show isDg c = false from decide_eq_false (by omega)]
      refine iteF ⟨_, rfl, _, _, rfl, rfl, _, rfl, ?_⟩
      rw [in_small h]
      refine iteT (iteT ⟨_, rfl, .inl ⟨rfl, _, .of ha⟩, _, rfl, _, _, _, rfl, rfl, ha, by rw [vst_len]; exact small_len (by show t1.length < _; omega), ?_⟩)
      have hb2 := at_ne (o := .lst (vst t1 ++ [sg c])) hb ab.symm
      refine ⟨_, rfl, .inl ⟨rfl, _, .of hb2⟩, _, _, _, rfl, rfl, hb2, by rw [vmk_len, List.length_append]; exact small_len (by show t2.length + 1 < _; omega), ?_⟩
      refine ⟨ex_upd (ex_upd e1 fa) fb, ⟨_, rfl⟩, at_ne ?_ ab, ?_, ?_, ?_, Nat.zero_le _⟩
      · rw [upd_same, vst_snoc]
      · rw [upd_same, vmk_snoc _ [], S_nil]
      · rw [List.length_append]
        exact Nat.succ_le_succ l1
      · rw [List.length_append]
        exact Nat.succ_le_succ l2
  · rintro σ H' ⟨e1, ⟨y, rfl⟩, ha, hb, l1, l2, l3⟩
    rw [← hs0, take_full] at ha hb
    obtain ⟨G, g, er, eG⟩ := rfold_ok hp
    rw [er] at ha hb
    have hb : H' b = some (.lst (vmk p.ms)) := by rw [← eG]; exact hb
    have ha : H' a = some (.lst (vst p.ls)) := ha
    have hll : p.ms.length ≤ 9 := by have h1 := hp.len; have h2 := hp.l8; omega
    have nls : decide (p.ls = []) = false := decide_eq_false hp.ne
    refine ⟨_, rfl, by decide, fun q nq => eq_vst (l := p.ls) (k := []) (.of (at_new ha nq)) (.of upd_same) (fun c hc => by have := hp.sm c hc; omega) (fun _ h => nomatch h) ⟨_, rfl, ?_⟩⟩
    rw [nls]
    have e2 := ex_new (o := .lst []) e1 nq
    have ha := at_new (o := .lst []) ha nq
    have hb := at_new (o := .lst []) hb nq
    refine iteF ⟨_, rfl, b, rfl, ⟨_, .of hb⟩, fun D nD => lc_allT walk_list (by rw [vmk_len]; omega) nD (fun H' e => ex_l e (.of hb)) (fun i x H' H2 Fin hi e ⟨e2, hx⟩ fy => ?_) fun H3 e3 => ⟨_, rfl, iteF ?_⟩⟩
    · subst e2
      obtain ⟨m, hm, rfl⟩ := List.mem_map.mp (List.mem_of_getElem? hx)
      exact ⟨rfl, _, rfl, m, rfl, hp.up m hm, Nat.le_trans (hp.m8 m hm) (by decide), fun H4 e4 => fy H4 e4⟩
    have ha := e3 a _ ha
    have hb := e3 b _ hb
    refine ⟨_, rfl, a, rfl, ⟨_, .of ha⟩, fun D nD => lc_anyF walk_list (by rw [vst_len]; have := hp.l8; omega) nD (fun H' e => ex_l e (.of ha)) (fun i x H' H2 Fin hi e ⟨e2, hx⟩ fy => ?_) fun H4 e4 => ?_⟩
    · subst e2
      obtain ⟨c, hc, rfl⟩ := List.mem_map.mp (List.mem_of_getElem? hx)
      refine ⟨rfl, _, rfl, c, capT, rfl, rfl, ?_⟩
      rw [in_cap (by have := hp.sm c hc; omega)]
      exact fy H2 (Ex.refl _)
    have ha := e4 a _ ha
    have hb := e4 b _ hb
    refine ⟨_, rfl, false, rfl, iteF (iteF ⟨_, rfl, _, rfl, sz2, fun t nt => ?_⟩)⟩
    have e5 := (e2.trans e3).trans e4
    exact k t a b _ (ex_new e5 nt) (fresh e5 nt) na (fresh (Ex.new na) nb) ab upd_same (at_new ha nt) (at_new hb nt)
end
end K21
end

/-! K21W3 -/
section
set_option Elab.async false
set_option linter.all false
set_option maxRecDepth 100000
set_option maxHeartbeats 4000000
/-! paths, their steps and kinds; books -/
namespace K21
open PySem PySem.Spec PyProof.Rows L2
open Evl (Ex ex_l ex_t)
def sp_is_path (K : PySem.W.Frag) : Sp := fun vs H Q _ => ∃ p : Pt, vs = [.str "any", .str p.txt] ∧ p.Ok ∧ RetV (.bl true) H Q
def sp_steps (K : PySem.W.Frag) : Sp := fun vs H Q _ => ∃ p : Pt, vs = [.str p.txt] ∧ p.Ok ∧ RetL (vst p.ls) H Q
def sp_marks (K : PySem.W.Frag) : Sp := fun vs H Q _ => ∃ p : Pt, vs = [.str p.txt] ∧ p.Ok ∧ RetL (vmk p.ms) H Q
/-- the texts of paths -/
def vtx (ks : List Pt) : List V := ks.map fun p => .str p.txt
theorem vtx_len (ks : List Pt) : (vtx ks).length = ks.length := List.length_map ..
theorem vtx_get {ks : List Pt} {i : Nat} (hi : i < ks.length) : (vtx ks)[i]? = some (.str (ks[i]).txt) := by
  unfold vtx
  rw [List.getElem?_map, List.getElem?_eq_getElem hi]
  rfl
/-- a book's paths: unlike, at most eight -/
structure Bok (ks : List Pt) : Prop where
  ok : ∀ p ∈ ks, p.Ok
  nd : (ks.map Pt.cs).Nodup
  le : ks.length ≤ 8
theorem fl_vtx (ks : List Pt) : (vtx ks).all flatV = true := List.all_eq_true.mpr fun x hx => by
  obtain ⟨p, _, rfl⟩ := List.mem_map.mp hx
  rfl
theorem inV_vtx {p : Pt} {ks : List Pt} (h : p.cs ∉ ks.map Pt.cs) : inV (.str p.txt) (vtx ks) = false := List.any_eq_false.mpr fun x hx => by
  obtain ⟨q, hq, rfl⟩ := List.mem_map.mp hx
  intro e
  have e : decide (q.txt = p.txt) = true := e
  exact h (List.mem_map.mpr ⟨q, hq, S_inj (of_decide_eq_true e)⟩)
def sp_checked_paths (K : PySem.W.Frag) : Sp := fun vs H Q _ => ∃ (a b : Addr) (ks : List Pt), vs = [.str "any", .ref a, .ref b] ∧ H a = some (.lst (vtx ks)) ∧ H b = some (.lst []) ∧ Bok ks ∧ RetL (vtx ks) H Q
/-- the class Book -/
structure ClB (K : PySem.W.Frag) (C : Addr) : Prop where
  cls : Cls K C
  n_manner : NoAttr K C "manner"
  n_paths : NoAttr K C "paths"
/-- a book -/
def Bk (C : Addr) (H : Hp) (b : Addr) (ks : List Pt) : Prop := ∃ dx l, H b = some (.ins C dx [("manner", .str "any"), ("paths", .ref l)]) ∧ H l = some (.lst (vtx ks))
theorem Bk.ex {C : Addr} {H H' : Hp} {b : Addr} {ks : List Pt} (h : Bk C H b ks) (e : Ex H H') : Bk C H' b ks := by
  obtain ⟨dx, l, h1, h2⟩ := h
  exact ⟨dx, l, e _ _ h1, e _ _ h2⟩
def sp_Book_init (K : PySem.W.Frag) (C : Addr) : Sp := fun vs H Q _ => ∃ (x a dx : Addr) (H0 : Hp) (ks : List Pt), vs = [.ref x, .str "any", .ref a] ∧ H x = some (.ins C dx []) ∧ H0 x = none ∧ Ex H0 H ∧ H a = some (.lst (vtx ks)) ∧ Bok ks ∧ ∀ H', Ex H0 H' → Bk C H' x ks → Q .non H'
def sp_checked_path (K : PySem.W.Frag) (C : Addr) : Sp := fun vs H Q _ => ∃ (b : Addr) (ks : List Pt) (p : Pt), vs = [.ref b, .str p.txt] ∧ Bk C H b ks ∧ p.Ok ∧ RetV (.str p.txt) H Q
section
variable {P : Program} {w : World} {K : PySem.W.Frag} {mg : Str → Option Value} {base : Heap} {C : Addr}
-- is_path: 0:manner, 1:thing, 2:found, 3:step, 4:mark
theorem sc_is_path : FnScope ["manner", "thing", "found", "step", "mark"] ["manner", "thing"] (defScope s_is_path) := ⟨rfl, rfl, rfl, by decide +kernel, rfl, by decide +kernel, by decide +kernel⟩
theorem ok_is_path {f : Addr} {fd : FuncData} (F : FnP K "is_path" "is_path" s_is_path f fd) (m : mg "is_path" = some (.ref f)) (T : Fx K mg)  (C_parsed : Cal P w K mg base "parsed" 2 ["path"] (sp_parsed K)) (C_is_manner : Cal P w K mg base "is_manner" 1 ["thing"] (sp_is_manner K)) : Cal P w K mg base "is_path" 3 ["manner", "thing"] (sp_is_path K) := by
  refine ⟨f, fd, ?_, m, F.kp, F.bindsN fun _ _ _ _ _ _ us hl => match us, hl with | [_, _], _ => rfl⟩
  refine F.ok sc_is_path (fun vs H Q E h => by obtain ⟨p, rfl, hp, k⟩ := h; rfl) (fun cdv A outer s H vs Q E hr h => ?_)
  obtain ⟨p, rfl, hp, k⟩ := h
  have nd := sc_is_path.nd
  have hu := hu_of hr
  refine ⟨_, PSs.nox (pss_cons (ps_if (pt_not (pt_val (pe_cal C_is_manner (hr.mono (by decide)) (by rfl) (pa_cons (pv 0) pa_nil))))
        pss_never
        pss_nil) -- if not is_manner(manner):
      (pss_cons (ps_set (i := 2) nd rfl (Or.inl rfl) (pe_cal C_parsed (hr.mono (by decide)) (by rfl) (pa_cons (pv 1) pa_nil))) -- found = parsed(thing)
      (pss_cons (ps_if (pt_cmpR op_isN (pv 2) pe_non (nomark _))
        (pss_one (ps_ret pe_bl))
        pss_nil) -- if found is None:
      (pss_cons (ps_if (pt_cmpR op_eq (pv 0) pe_str (nomark _))
        (pss_one (ps_ret (pe_callB (cr_all rfl) (by rfl) T.n_all (by decide +kernel) (pa_cons (pe_lc (own := [("step", 3)]) (g := (gName 3)) (by rfl) nd (pi_list (pe_ix ix_tup (pv 2) pe_int (fun _ _ => rfl))) (blkOk_by (N := ["manner", "thing", "found", "step", "mark"]) (sc := defScope s_is_path) (own := [("step", 3)]) (by decide +kernel)) (fun _ _ _ _ _ => (pg_name (i := 3) nd rfl (Or.inl rfl) (.inr rfl))) (fun _ _ _ _ _ => pts_nil) (fun _ _ _ _ _ => (pe_cmpR op_in_sign (pv 3) T.c_SMALL rfl))) pa_nil))))
        pss_nil) -- if manner == 'any':
      (pss_one (ps_ret (pe_callB (cr_all rfl) (by rfl) T.n_all (by decide +kernel) (pa_cons (pe_lc (own := [("mark", 4)]) (g := (gName 4)) (by rfl) nd (pi_list (pe_ix ix_tup (pv 2) pe_int (fun _ _ => rfl))) (blkOk_by (N := ["manner", "thing", "found", "step", "mark"]) (sc := defScope s_is_path) (own := [("mark", 4)]) (by decide +kernel)) (fun _ _ _ _ _ => (pg_name (i := 4) nd rfl (Or.inl rfl) (.inr rfl))) (fun _ _ _ _ _ => pts_nil) (fun _ _ _ _ _ => (pe_cmpR op_eq (pv 4) pe_str (nomark _)))) pa_nil)))))))), ?_⟩
  refine ⟨_, rfl, rfl, fun H1 e1 => ⟨_, rfl, iteF ?_⟩⟩
  refine ⟨_, rfl, p, rfl, hp, fun t a b H2 e2 nt na nb ab ht ha hb => ?_⟩
  refine ⟨_, rfl, rfl, _, rfl, iteF ?_⟩
  refine ⟨_, rfl, rfl, _, rfl, iteS ?_⟩
  refine ⟨_, rfl, _, _, 0, _, rfl, rfl, .of ht, rfl, _, rfl, ⟨_, .of ha⟩, fun D nD => lc_allT walk_list (by rw [vst_len]; have := hp.l8; omega) nD (fun H' e => ex_l e (.of ha)) (fun i x H' H2 Fin hi e ⟨e2, hx⟩ fy => ?_) fun H4 e4 => ?_⟩
  · subst e2
    obtain ⟨c, hc, rfl⟩ := List.mem_map.mp (List.mem_of_getElem? hx)
    refine ⟨rfl, _, rfl, c, smallT, rfl, rfl, ?_⟩
    rw [in_small (hp.sm c hc)]
    exact fy H2 (Ex.refl _)
  · exact k H4 ((e1.trans e2).trans e4)
-- steps: 0:path, 1:found
theorem sc_steps : FnScope ["path", "found"] ["path"] (defScope s_steps) := ⟨rfl, rfl, rfl, by decide +kernel, rfl, by decide +kernel, by decide +kernel⟩
theorem ok_steps {f : Addr} {fd : FuncData} (F : FnP K "steps" "steps" s_steps f fd) (m : mg "steps" = some (.ref f)) (T : Fx K mg)  (C_parsed : Cal P w K mg base "parsed" 2 ["path"] (sp_parsed K)) : Cal P w K mg base "steps" 3 ["path"] (sp_steps K) := by
  refine ⟨f, fd, ?_, m, F.kp, F.bindsN fun _ _ _ _ _ _ us hl => match us, hl with | [_], _ => rfl⟩
  refine F.ok sc_steps (fun vs H Q E h => by obtain ⟨p, rfl, hp, k⟩ := h; rfl) (fun cdv A outer s H vs Q E hr h => ?_)
  obtain ⟨p, rfl, hp, k⟩ := h
  have nd := sc_steps.nd
  have hu := hu_of hr
  refine ⟨_, PSs.nox (pss_cons (ps_set (i := 1) nd rfl (Or.inl rfl) (pe_cal C_parsed (hr.mono (by decide)) (by rfl) (pa_cons (pv 0) pa_nil))) -- found = parsed(path)
      (pss_cons (ps_if (pt_cmpR op_isN (pv 1) pe_non (nomark _))
        pss_never
        pss_nil) -- if found is None:
      (pss_one (ps_ret (pe_ix ix_tup (pv 1) pe_int (fun _ _ => rfl)))))), ?_⟩
  refine ⟨_, rfl, p, rfl, hp, fun t a b H2 e2 nt na nb ab ht ha hb => ?_⟩
  refine ⟨_, rfl, rfl, _, rfl, iteF ?_⟩
  exact ⟨_, rfl, _, _, 0, _, rfl, rfl, .of ht, rfl, k a H2 na e2 ha⟩
-- marks: 0:path, 1:found
theorem sc_marks : FnScope ["path", "found"] ["path"] (defScope s_marks) := ⟨rfl, rfl, rfl, by decide +kernel, rfl, by decide +kernel, by decide +kernel⟩
theorem ok_marks {f : Addr} {fd : FuncData} (F : FnP K "marks" "marks" s_marks f fd) (m : mg "marks" = some (.ref f)) (T : Fx K mg)  (C_parsed : Cal P w K mg base "parsed" 2 ["path"] (sp_parsed K)) : Cal P w K mg base "marks" 3 ["path"] (sp_marks K) := by
  refine ⟨f, fd, ?_, m, F.kp, F.bindsN fun _ _ _ _ _ _ us hl => match us, hl with | [_], _ => rfl⟩
  refine F.ok sc_marks (fun vs H Q E h => by obtain ⟨p, rfl, hp, k⟩ := h; rfl) (fun cdv A outer s H vs Q E hr h => ?_)
  obtain ⟨p, rfl, hp, k⟩ := h
  have nd := sc_marks.nd
  have hu := hu_of hr
  refine ⟨_, PSs.nox (pss_cons (ps_set (i := 1) nd rfl (Or.inl rfl) (pe_cal C_parsed (hr.mono (by decide)) (by rfl) (pa_cons (pv 0) pa_nil))) -- found = parsed(path)
      (pss_cons (ps_if (pt_cmpR op_isN (pv 1) pe_non (nomark _))
        pss_never
        pss_nil) -- if found is None:
      (pss_one (ps_ret (pe_ix ix_tup (pv 1) pe_int (fun _ _ => rfl)))))), ?_⟩
  refine ⟨_, rfl, p, rfl, hp, fun t a b H2 e2 nt na nb ab ht ha hb => ?_⟩
  refine ⟨_, rfl, rfl, _, rfl, iteF ?_⟩
  exact ⟨_, rfl, _, _, 1, _, rfl, rfl, .of ht, rfl, k b H2 nb e2 hb⟩
-- checked_paths: 0:manner, 1:paths, 2:found, 3:kept, 4:path
theorem sc_checked_paths : FnScope ["manner", "paths", "found", "kept", "path"] ["manner", "paths", "found"] (defScope s_checked_paths) := ⟨rfl, rfl, rfl, by decide +kernel, rfl, by decide +kernel, by decide +kernel⟩
theorem ok_checked_paths {f : Addr} {fd : FuncData} (F : FnP K "checked_paths" "checked_paths" s_checked_paths f fd) (m : mg "checked_paths" = some (.ref f)) (T : Fx K mg)  (C_is_list : Cal P w K mg base "is_list" 1 ["thing"] (sp_is_list K)) (C_is_path : Cal P w K mg base "is_path" 3 ["manner", "thing"] (sp_is_path K)) : Cal P w K mg base "checked_paths" 4 ["manner", "paths", "found"] (sp_checked_paths K) := by
  refine ⟨f, fd, ?_, m, F.kp, F.bindsN fun _ _ _ _ _ _ us hl => match us, hl with | [_, _, _], _ => rfl⟩
  refine F.ok sc_checked_paths (fun vs H Q E h => by obtain ⟨a, b, ks, rfl, ha, hb, hk, k⟩ := h; rfl) (fun cdv A outer s H vs Q E hr h => ?_)
  obtain ⟨a, b, ks, rfl, ha, hb, hk, k⟩ := h
  have nd := sc_checked_paths.nd
  have hu := hu_of hr
  refine ⟨_, PSs.nox (pss_cons (ps_if (pt_not (pt_val (pe_cal C_is_list (hr.mono (by decide)) (by rfl) (pa_cons (pv 1) pa_nil))))
        pss_never
        pss_nil) -- if not is_list(paths):
      (pss_cons (ps_set (i := 3) nd rfl (Or.inl rfl) (pe_callTy call_list_of (by rfl) T.n_list (by decide +kernel) (pa_cons (pv 2) pa_nil))) -- kept = list(found)
      (pss_cons (ps_for PassesOwn.never rfl (pi_list (pv 1)) (pg_name (i := 4) nd rfl (Or.inl rfl))
        (pss_cons (ps_if (PW.pt (pw_or (pt_cmpR op_eq (pe_callB call_len_seq (by rfl) T.n_len (by decide +kernel) (pa_cons (pv 3) pa_nil)) T.c_MOST_PATHS (nomark _)) (pw_or (pt_not (pt_val (pe_cal C_is_path (hr.mono (by decide)) (by rfl) (pa_cons (pv 0) (pa_cons (pv 4) pa_nil))))) (pw_or1 (pt_cmpR op_in_seq (pv 4) (pv 3) (by rfl))))))
          pss_never
          pss_nil) -- if len(kept) == MOST_PATHS or not is_path(manner, path) or path in kept:
        (pss_one (ps_expr (pe_bm PySem.F.plainAttrs_list PySem.F.slot_list_append PySem.F.type_list_append mt_append (pv 3) (pa_cons (pv 4) pa_nil)))))) -- for path in paths:
      (pss_one (ps_ret (pv 3)))))), ?_⟩
  refine ⟨_, rfl, a, "list", rfl, .inl rfl, .base (.lst ha), fun p o np => .base (.lst (at_new ha np)), fun H1 e1 => ⟨_, rfl, iteF ?_⟩⟩
  refine ⟨_, rfl, b, _, rfl, .inl (.of (e1 b _ hb)), fun l nl => ?_⟩
  refine ⟨_, rfl, a, rfl, ⟨_, .of (at_new (e1 a _ ha) nl)⟩, ?_⟩
  have nl0 := fresh e1 nl
  refine for_it walk_list (fun i σ H' => Ex H H' ∧ (∃ x, σ = [some (.str "any"), some (.ref a), some (.ref b), some (.ref l), x]) ∧ H' l = some (.lst (vtx (ks.take i))))
    ⟨ex_new e1 nl, ⟨_, rfl⟩, upd_same⟩ (fun i σ H' _ p => .of (p.1 a _ ha)) ?_ ?_
  · rintro i x σ H0 H' hi ⟨e2, ⟨y, rfl⟩, hl⟩ ⟨rfl, hx⟩
    rw [vtx_len] at hi
    have hx : (vtx ks)[i]? = some x := hx
    rw [vtx, List.getElem?_map, List.getElem?_eq_getElem hi] at hx
    cases hx
    have hp := hk.ok _ (List.getElem_mem hi)
    have hlen : (vtx (ks.take i)).length = i := by rw [vtx_len, List.length_take]; omega
    have n8 : decide (V.int ((vtx (ks.take i)).length : Nat) = V.int 8) = false := decide_eq_false fun e => by
      rw [hlen] at e
      injection e with e
      have := hk.le
      omega
    refine ⟨_, rfl, _, _, rfl, .inl (.of hl), rfl, _, rfl, ?_⟩
    show (if decide (V.int ((vtx (ks.take i)).length : Nat) = V.int 8) = true then _ else _)
    rw [n8]
    refine iteF ⟨_, rfl, _, rfl, ks[i], rfl, hp, fun H3 e3 => ⟨_, rfl, iteF ?_⟩⟩
    have hl3 := e3 l _ hl
    refine ⟨_, rfl, _, rfl, _, _, rfl, .inl (.of hl3), rfl, fl_vtx _, _, rfl, ?_⟩
    rw [inV_vtx]
    · refine iteF ⟨_, rfl, .inl ⟨rfl, _, .of hl3⟩, _, rfl, _, _, _, rfl, rfl, hl3, small_len (by rw [hlen]; have := hk.le; omega), ?_⟩
      refine ⟨ex_upd (e2.trans e3) nl0, ⟨_, rfl⟩, ?_⟩
      rw [upd_same, List.take_add_one, List.getElem?_eq_getElem hi]
      unfold vtx
      rw [List.map_append]
      rfl
    · have q := hk.nd
      rw [← List.take_append_drop i ks, List.map_append, List.drop_eq_getElem_cons hi, List.map_cons, List.nodup_append] at q
      exact fun h => q.2.2 _ h _ List.mem_cons_self rfl
  · rintro σ H' ⟨e2, ⟨y, rfl⟩, hl⟩
    rw [vtx_len, List.take_length] at hl
    exact ⟨_, rfl, k l H' nl0 e2 hl⟩
-- Book.__init__: 0:self, 1:manner, 2:kept
theorem sc_Book_init : FnScope ["self", "manner", "kept"] ["self", "manner", "kept"] (defScope s_Book_init) := ⟨rfl, rfl, rfl, by decide +kernel, rfl, by decide +kernel, by decide +kernel⟩
theorem ok_Book_init {f : Addr} {fd : FuncData} (F : FnP K "__init__" "Book.__init__" s_Book_init f fd) (T : Fx K mg) (B : ClB K C) (C_checked_paths : Cal P w K mg base "checked_paths" 4 ["manner", "paths", "found"] (sp_checked_paths K)) (C_is_manner : Cal P w K mg base "is_manner" 1 ["thing"] (sp_is_manner K)) : FnOk P w K mg base CX0 5 f fd ["self", "manner", "kept"] (sp_Book_init K C) := by
  refine F.ok sc_Book_init (fun vs H Q E h => by obtain ⟨x, a, dx, H0, ks, rfl, hx, nx, e0, ha, hk, k⟩ := h; rfl) (fun cdv A outer s H vs Q E hr h => ?_)
  obtain ⟨x, a, dx, H0, ks, rfl, hx, nx, e0, ha, hk, k⟩ := h
  have nd := sc_Book_init.nd
  have hu := hu_of hr
  refine ⟨_, PSs.nox (pss_cons (ps_if (pt_not (pt_val (pe_cal C_is_manner (hr.mono (by decide)) (by rfl) (pa_cons (pv 1) pa_nil))))
        pss_never
        pss_nil) -- if not is_manner(manner):
      (pss_cons (ps_fld (pv 0) (pv 1) rfl) -- self.manner = manner
      (pss_one (ps_fld (pv 0) (pe_cal C_checked_paths (hr.mono (by decide)) (by rfl) (pa_cons (pv 1) (pa_cons (pv 2) (pa_cons (pe_lst pa_nil) pa_nil)))) rfl)))), ?_⟩
  refine ⟨_, rfl, rfl, fun H1 e1 => ⟨_, rfl, iteF ?_⟩⟩
  have hx1 := e1 x _ hx
  have ax : a ≠ x := fun e => by rw [e, hx] at ha; cases ha
  refine ⟨_, rfl, _, rfl, x, C, dx, _, rfl, hx1, B.cls, B.n_manner, by decide, ?_⟩
  refine ⟨_, rfl, _, rfl, szk, fun b nb => ?_⟩
  have xb : x ≠ b := ne_of_none (H := upd H1 x _) upd_same nb
  have e0' := (e0.trans e1)
  refine ⟨a, b, ks, rfl, at_new (at_ne (e1 a _ ha) ax) nb, upd_same, hk, fun l H2 nl e2 hl => ?_⟩
  have hx2 := e2 x _ (at_ne (o := .lst []) upd_same xb)
  have nx0 : H1 x ≠ none := by rw [hx1]; exact fun h => nomatch h
  refine ⟨_, rfl, x, C, dx, _, rfl, hx2, B.cls, B.n_paths, by decide, ?_⟩
  have e3 : Ex H0 H2 := (ex_upd (ex_upd e0' nx) (fresh (ex_upd (o := .ins C dx [("manner", .str "any")]) e0' nx) nb)).trans e2
  have lx : l ≠ x := fun e => by rw [e] at nl; rw [at_ne upd_same xb] at nl; cases nl
  exact k _ (ex_upd e3 nx) ⟨dx, l, upd_same, at_ne hl lx⟩
-- checked_path: 0:book, 1:path
theorem sc_checked_path : FnScope ["book", "path"] ["book", "path"] (defScope s_checked_path) := ⟨rfl, rfl, rfl, by decide +kernel, rfl, by decide +kernel, by decide +kernel⟩
theorem ok_checked_path {f : Addr} {fd : FuncData} (F : FnP K "checked_path" "checked_path" s_checked_path f fd) (m : mg "checked_path" = some (.ref f)) (T : Fx K mg) (B : ClB K C) (C_is_path : Cal P w K mg base "is_path" 3 ["manner", "thing"] (sp_is_path K)) : Cal P w K mg base "checked_path" 4 ["book", "path"] (sp_checked_path K C) := by
  refine ⟨f, fd, ?_, m, F.kp, F.bindsN fun _ _ _ _ _ _ us hl => match us, hl with | [_, _], _ => rfl⟩
  refine F.ok sc_checked_path (fun vs H Q E h => by obtain ⟨b, ks, p, rfl, hb, hp, k⟩ := h; rfl) (fun cdv A outer s H vs Q E hr h => ?_)
  obtain ⟨b, ks, p, rfl, hb, hp, k⟩ := h
  have nd := sc_checked_path.nd
  have hu := hu_of hr
  refine ⟨_, PSs.nox (pss_cons (ps_if (pt_not (pt_val (pe_cal C_is_path (hr.mono (by decide)) (by rfl) (pa_cons (pe_fld (pv 0) rfl) (pa_cons (pv 1) pa_nil)))))
        pss_never
        pss_nil) -- if not is_path(book.manner, path):
      (pss_one (ps_ret (pv 1)))), ?_⟩
  obtain ⟨dx, l, h1, h2⟩ := hb
  refine ⟨_, rfl, b, C, dx, _, _, rfl, h1, B.cls, B.n_manner, rfl, _, rfl, p, rfl, hp, fun H1 e1 => ⟨_, rfl, iteF ?_⟩⟩
  exact ⟨_, rfl, k H1 e1⟩
end
end K21
end

/-! K21W4 -/
section
set_option Elab.async false
set_option linter.all false
set_option maxRecDepth 100000
set_option maxHeartbeats 4000000
/-! a kept path at a place; the bridges of a line -/
namespace K21
open PySem PySem.Spec PyProof.Rows L2
open Evl (Ex ex_l ex_t)
theorem fit_mid {α : Type} (l : List α) {i n : Nat} (hn : 1 ≤ n) (h : i + n + 1 ≤ l.length) : (((l.drop i).take (n + 1)).drop 1).dropLast = (l.drop (i + 1)).take (n - 1) := by
  rw [List.drop_take, List.drop_drop, Nat.add_sub_cancel, List.dropLast_eq_take, List.length_take, List.length_drop, List.take_take]
  congr 1
  omega
theorem all_get (m : List Nat) (f : Nat → Bool) : ((List.range m.length).map fun i => f (m.getD i 0)).all id = m.all f := by
  have e : (List.range m.length).map (fun i => f (m.getD i 0)) = m.map f := by
    conv => rhs; rw [← range_get 0 m, List.map_map]
    rfl
  rw [e, List.all_map]
  rfl
theorem cutL_len {α : Type} (l : List α) (lo hi : Option Int) : (cutL l lo hi).length ≤ l.length := by
  unfold cutL
  rw [List.length_take, List.length_drop]
  omega
theorem cutL_sub {α : Type} {l : List α} {lo hi : Option Int} {x : α} (h : x ∈ cutL l lo hi) : x ∈ l := List.mem_of_mem_drop (List.mem_of_mem_take h)
def sp_fits (K : PySem.W.Frag) : Sp := fun vs H Q _ => ∃ (p q : Pt) (i : Nat), vs = [.str p.txt, .int i, .str q.txt] ∧ p.Ok ∧ q.Ok ∧ i + q.ls.length ≤ p.ls.length ∧ RetV (.bl (fitB p q i)) H Q
section
variable {P : Program} {w : World} {K : PySem.W.Frag} {mg : Str → Option Value} {base : Heap} {C : Addr}
-- fits: 0:path, 1:i, 2:kept, 3:found, 4:wanted, 5:j, 6:own, 7:signs, 8:digit  cells: signs
theorem sc_fits : FnScope ["path", "i", "kept", "found", "wanted", "j", "own", "signs", "digit"] ["path", "i", "kept"] (defScope s_fits) := ⟨rfl, rfl, rfl, by decide +kernel, rfl, by decide +kernel, by decide +kernel⟩
theorem ok_fits {f : Addr} {fd : FuncData} (F : FnP K "fits" "fits" s_fits f fd) (m : mg "fits" = some (.ref f)) (T : Fx K mg)  (C_steps : Cal P w K mg base "steps" 3 ["path"] (sp_steps K)) (C_marks : Cal P w K mg base "marks" 3 ["path"] (sp_marks K)) : Cal P w K mg base "fits" 4 ["path", "i", "kept"] (sp_fits K) := by
  refine ⟨f, fd, ?_, m, F.kp, F.bindsN fun _ _ _ _ _ _ us hl => match us, hl with | [_, _, _], _ => rfl⟩
  refine F.ok sc_fits (fun vs H Q E h => by obtain ⟨p, q, i, rfl, hp, hq, hi, k⟩ := h; rfl) (fun cdv A outer s H vs Q E hr h => ?_)
  obtain ⟨p, q, i, rfl, hp, hq, hi, k⟩ := h
  have nd := sc_fits.nd
  have hu := hu_of hr
  refine ⟨_, PSs.nox (pss_cons (ps_par (i := 3) (j := 4) (by rfl) nd rfl rfl (by decide) rfl rfl (pa_cons (pe_cal C_steps (hr.mono (by decide)) (by rfl) (pa_cons (pv 2) pa_nil)) (pa_cons (pe_cal C_steps (hr.mono (by decide)) (by rfl) (pa_cons (pv 0) pa_nil)) pa_nil)) (by rfl)) -- found, wanted = (steps(kept), steps(path))
      (pss_cons (ps_set (i := 5) nd rfl (Or.inl rfl) (pe_op op_add (pv 1) (pe_callB call_len_seq (by rfl) T.n_len (by decide +kernel) (pa_cons (pv 3) pa_nil)))) -- j = i + len(found)
      (pss_cons (ps_if (pt_cmpR (op_neD hr.units) (pe_slice sl_list (pv 4) (po_some (pv 1)) (po_some (pv 5))) (pv 3) (nomark _))
        (pss_one (ps_ret pe_bl))
        pss_nil) -- if wanted[i:j] != found:
      (pss_cons (ps_asg (pe_tup (pa_cons (pe_cal C_marks (hr.mono (by decide)) (by rfl) (pa_cons (pv 2) pa_nil)) (pa_cons (pe_slice sl_list (pe_cal C_marks (hr.mono (by decide)) (by rfl) (pa_cons (pv 0) pa_nil)) (po_some (pv 1)) (po_some (pe_op op_add (pv 5) pe_int))) pa_nil))) (pg_tup rfl (pgs_cons (pg_name (i := 6) nd rfl (Or.inl rfl)) (pgs_cons (pg_name (i := 7) nd rfl (Or.inr rfl)) pgs_nil)))) -- own, signs = (marks(kept), marks(path)[i:j + 1])
      (pss_cons (ps_if (pt_cmpR (op_neD hr.units) (pe_slice sl_list (pv 6) (po_some pe_int) (po_some (pe_un un_neg pe_int))) (pe_slice sl_list (pv 7) (po_some pe_int) (po_some (pe_un un_neg pe_int))) (nomark _))
        (pss_one (ps_ret pe_bl))
        pss_nil) -- if own[1:-1] != signs[1:-1]:
      (pss_one (ps_ret (pe_and (pe_callB (cr_all rfl) (by rfl) T.n_all (by decide +kernel) (pa_cons (pe_lc (own := [("digit", 8)]) (g := (gName 8)) (by rfl) nd (pi_str (pe_ix ix_list (pv 6) pe_int (fun _ _ => rfl))) (blkOk_by (N := ["path", "i", "kept", "found", "wanted", "j", "own", "signs", "digit"]) (sc := defScope s_fits) (own := [("digit", 8)]) (by decide +kernel)) (fun _ _ _ _ _ => (pg_name (i := 8) nd rfl (Or.inl rfl) (.inr rfl))) (fun _ _ _ _ _ => pts_nil) (fun _ _ _ _ _ => (pe_cmpR op_in_sign (pv 8) (pe_ix (ix_list : IxR _ (rIxL K)) (pv 7) pe_int (fun _ _ => rfl)) rfl))) pa_nil)) (pe_one (pe_callB (cr_all rfl) (by rfl) T.n_all (by decide +kernel) (pa_cons (pe_lc (own := [("digit", 8)]) (g := (gName 8)) (by rfl) nd (pi_str (pe_ix ix_list (pv 6) (pe_un un_neg pe_int) (fun _ _ => rfl))) (blkOk_by (N := ["path", "i", "kept", "found", "wanted", "j", "own", "signs", "digit"]) (sc := defScope s_fits) (own := [("digit", 8)]) (by decide +kernel)) (fun _ _ _ _ _ => (pg_name (i := 8) nd rfl (Or.inl rfl) (.inr rfl))) (fun _ _ _ _ _ => pts_nil) (fun _ _ _ _ _ => (pe_cmpR op_in_sign (pv 8) (pe_ix (ix_list : IxR _ (rIxL K)) (pv 7) (pe_un un_neg pe_int) (fun _ _ => rfl)) rfl))) pa_nil))))))))))), ?_⟩
  have lq : 1 ≤ q.ls.length := List.length_pos_iff.mpr hq.ne
  have gp : ∀ c ∈ p.ls, c < 1000 := fun c hc => by have := hp.sm c hc; omega
  have gq : ∀ c ∈ q.ls, c < 1000 := fun c hc => by have := hq.sm c hc; omega
  have dp : ∀ m ∈ p.ms, ∀ c ∈ m, c < 1000 := fun m hm c hc => by have := hp.dg m hm c hc; omega
  have dq : ∀ m ∈ q.ms, ∀ c ∈ m, c < 1000 := fun m hm c hc => by have := hq.dg m hm c hc; omega
  refine ⟨_, rfl, q, rfl, hq, fun a H1 na e1 ha => ⟨_, rfl, p, rfl, hp, fun b H2 nb e2 hb => ⟨_, _, rfl, ?_⟩⟩⟩
  have ha := e2 a _ ha
  refine ⟨_, rfl, _, rfl, _, _, rfl, .inl (.of ha), _, _, rfl, rfl, ?_⟩
  rw [vst_len]
  have e3 := e1.trans e2
  refine ⟨_, rfl, _, rfl, _, rfl, _, rfl, _, rfl, b, _, rfl, .of hb, fun s ns => ?_⟩
  have hs : upd H2 s (.lst (cutV (vst p.ls) (some (i : Int)) (some ((i : Int) + (q.ls.length : Nat))))) s = some (.lst (vst ((p.ls.drop i).take q.ls.length))) := by
    rw [upd_same, vst, cutV_map, show ((i : Int) + (q.ls.length : Nat)) = ((i + q.ls.length : Nat) : Int) from rfl, cutL_mid _ (Nat.le_add_right _ _) hi, Nat.add_sub_cancel_left]
    rfl
  refine ⟨_, rfl, ne_vst (.of hs) (.of (at_new ha ns)) (fun c hc => gp c (List.mem_of_mem_drop (List.mem_of_mem_take hc))) gq ⟨_, rfl, ?_⟩⟩
  have e4 := ex_new (o := .lst (cutV (vst p.ls) (some (i : Int)) (some ((i : Int) + (q.ls.length : Nat))))) e3 ns
  by_cases h1 : (p.ls.drop i).take q.ls.length = q.ls
  case neg =>
    rw [decide_eq_false h1]
    refine iteT ?_
    have f1 : fitB p q i = false := by unfold fitB; rw [decide_eq_false h1]; rfl
    rw [f1] at k
    exact k _ e4
  rw [decide_eq_true h1]
  refine iteF ?_
  have lm := hp.len
  have lmq := hq.len
  refine ⟨_, rfl, q, rfl, hq, fun c H3 nc e5 hc => ⟨_, rfl, p, rfl, hp, fun d H4 nd4 e6 hd => ⟨_, rfl, _, rfl, _, rfl, _, _, rfl, rfl, _, rfl, d, _, rfl, .of hd, fun g ng => ⟨sz2, fun tp ntp => ⟨_, _, rfl, .of upd_same, rfl, _, _, rfl, _, _, rfl, rfl, ?_⟩⟩⟩⟩⟩
  have hg : upd H4 g (.lst (cutV (vmk p.ms) (some (i : Int)) (some ((i : Int) + (q.ls.length : Nat) + 1)))) g = some (.lst (vmk ((p.ms.drop i).take (q.ls.length + 1)))) := by
    rw [upd_same, vmk, cutV_map, show ((i : Int) + (q.ls.length : Nat) + 1) = ((i + q.ls.length + 1 : Nat) : Int) from rfl, cutL_mid _ (by omega) (by omega), show i + q.ls.length + 1 - i = q.ls.length + 1 by omega]
    rfl
  have e7 := ((e4.trans e5).trans e6)
  have e8 := ex_new (o := .lst (cutV (vmk p.ms) (some (i : Int)) (some ((i : Int) + (q.ls.length : Nat) + 1)))) e7 ng
  have hc := at_new (o := .lst (cutV (vmk p.ms) (some (i : Int)) (some ((i : Int) + (q.ls.length : Nat) + 1)))) (e6 c _ hc) ng
  generalize upd H4 g (.lst (cutV (vmk p.ms) (some (i : Int)) (some ((i : Int) + (q.ls.length : Nat) + 1)))) = H5 at hg hc e8 ntp ⊢
  have hg := at_new (o := .tup [.ref c, .ref g]) hg ntp
  have hc := at_new (o := .tup [.ref c, .ref g]) hc ntp
  have e8 := ex_new (o := .tup [.ref c, .ref g]) e8 ntp
  have hsl : ((p.ms.drop i).take (q.ls.length + 1)).length = q.ls.length + 1 := by rw [List.length_take, List.length_drop]; omega
  refine ⟨_, rfl, 1, rfl, 1, rfl, _, rfl, c, _, rfl, .of hc, fun u nu => ?_⟩
  generalize upd H5 tp (.tup [.ref c, .ref g]) = H5 at hg hc e8 nu ⊢
  have hu1 : upd H5 u (.lst (cutV (vmk q.ms) (some 1) (some (-1)))) u = some (.lst (vmk ((q.ms.drop 1).dropLast))) := by
    rw [upd_same, vmk, cutV_map, cutL_in _ (by omega)]
    rfl
  have hg1 := at_new (o := .lst (cutV (vmk q.ms) (some 1) (some (-1)))) hg nu
  have hc1 := at_new (o := .lst (cutV (vmk q.ms) (some 1) (some (-1)))) hc nu
  have e9 := ex_new (o := .lst (cutV (vmk q.ms) (some 1) (some (-1)))) e8 nu
  generalize upd H5 u (.lst (cutV (vmk q.ms) (some 1) (some (-1)))) = H6 at hu1 hg1 hc1 e9 ⊢
  refine ⟨_, rfl, 1, rfl, 1, rfl, _, rfl, g, _, rfl, .of hg1, fun v nv => ?_⟩
  have hv1 : upd H6 v (.lst (cutV (vmk ((p.ms.drop i).take (q.ls.length + 1))) (some 1) (some (-1)))) v = some (.lst (vmk ((p.ms.drop (i + 1)).take (q.ls.length - 1)))) := by
    rw [upd_same, vmk, cutV_map, cutL_in _ (by omega), fit_mid _ lq (by omega)]
    rfl
  have hg2 := at_new (o := .lst (cutV (vmk ((p.ms.drop i).take (q.ls.length + 1))) (some 1) (some (-1)))) hg1 nv
  have hc2 := at_new (o := .lst (cutV (vmk ((p.ms.drop i).take (q.ls.length + 1))) (some 1) (some (-1)))) hc1 nv
  have hu2 := at_new (o := .lst (cutV (vmk ((p.ms.drop i).take (q.ls.length + 1))) (some 1) (some (-1)))) hu1 nv
  have e10 := ex_new (o := .lst (cutV (vmk ((p.ms.drop i).take (q.ls.length + 1))) (some 1) (some (-1)))) e9 nv
  generalize upd H6 v (.lst (cutV (vmk ((p.ms.drop i).take (q.ls.length + 1))) (some 1) (some (-1)))) = H7 at hv1 hg2 hc2 hu2 e10 ⊢
  refine ne_vmk (.of hu2) (.of hv1) (fun m hm => dq m (List.mem_of_mem_drop ((List.dropLast_sublist _).subset hm))) (fun m hm => dp m (List.mem_of_mem_drop (List.mem_of_mem_take hm))) ⟨_, rfl, ?_⟩
  by_cases h2 : (q.ms.drop 1).dropLast = (p.ms.drop (i + 1)).take (q.ls.length - 1)
  case neg =>
    rw [decide_eq_false h2]
    refine iteT ?_
    have f1 : fitB p q i = false := by unfold fitB; rw [decide_eq_false h2, Bool.false_and, Bool.and_false]
    rw [f1] at k
    exact k _ e10
  rw [decide_eq_true h2]
  refine iteF ?_
  have f1 : fitB p q i = ((q.ms.headD []).all (fun d => (p.ms.getD i []).contains d) && (q.ms.getLastD []).all (fun d => (p.ms.getD (i + q.ls.length) []).contains d)) := by
    unfold fitB
    rw [decide_eq_true h1, decide_eq_true h2, Bool.true_and, Bool.true_and]
  rw [f1] at k
  have i0 : (p.ms.drop i).take (q.ls.length + 1) ≠ [] := fun e => by rw [e] at hsl; cases hsl
  have g0 : ((p.ms.drop i).take (q.ls.length + 1))[0]? = some (p.ms.getD i []) := by
    rw [List.getElem?_take_of_lt (by omega), List.getElem?_drop, List.getD_eq_getElem?_getD, Nat.add_zero, List.getElem?_eq_getElem (by omega)]
    rfl
  have g1 : ((p.ms.drop i).take (q.ls.length + 1))[q.ls.length]? = some (p.ms.getD (i + q.ls.length) []) := by
    rw [List.getElem?_take_of_lt (by omega), List.getElem?_drop, List.getD_eq_getElem?_getD, List.getElem?_eq_getElem (by omega)]
    rfl
  have q0 : q.ms[0]? = some (q.ms.headD []) := by
    cases e : q.ms with
    | nil => rw [e] at lmq; cases lmq
    | cons x r => rfl
  have q1 : q.ms.getLast? = some (q.ms.getLastD []) := by
    rw [List.getLastD_eq_getLast?, List.getLast?_eq_some_getLast (fun e => by rw [e] at lmq; cases lmq)]
    rfl
  generalize (p.ms.drop i).take (q.ls.length + 1) = sl at *
  generalize q.ms.headD [] = m0 at *
  generalize q.ms.getLastD [] = m1 at *
  have hm0 : m0 ∈ q.ms := List.mem_of_getElem? q0
  have hm1 : m1 ∈ q.ms := List.mem_of_getLast? q1
  refine ⟨_, rfl, _, _, 0, .str (S m0), rfl, rfl, .of hc2, atI_nat (j := 0) (by rw [vmk, List.getElem?_map, q0]; rfl), _, rfl, fun D nD => lc_allB walk_str (fun j => (p.ms.getD i []).contains (m0.getD j 0)) (by rw [S_size]; have := hq.m8 _ hm0; omega) nD (fun _ _ => trivial) (fun j x H' H2 Fin hj e ⟨eh, ch, hx, ex⟩ fy => ?_) fun H8 e11 => ⟨_, rfl, ?_⟩⟩
  · subst eh ex
    rw [S_get] at hx
    refine ⟨rfl, _, rfl, _, rfl, _, _, 0, .str (S (p.ms.getD i [])), rfl, rfl, .of (e _ _ hg2), atI_nat (j := 0) (by rw [vmk, List.getElem?_map, g0]; rfl), _, _, rfl, rfl, ?_⟩
    have q := fy _ (Ex.refl _)
    rw [getD_of hx, List.contains_eq_mem] at q
    rw [S_cps]
    exact q
  rw [S_size, all_get]
  have e12 := e10.trans e11
  by_cases h3 : (m0.all fun d => (p.ms.getD i []).contains d) = true
  case neg =>
    have h3 := Bool.eq_false_iff.mpr h3
    rw [h3]
    refine iteF ?_
    rw [h3, Bool.false_and] at k
    exact k _ e12
  rw [h3]
  rw [h3, Bool.true_and] at k
  have hg8 := e11 _ _ hg2
  have hc8 := e11 _ _ hc2
  have hslk : (vmk sl).getLast? = some (.str (S (p.ms.getD (i + q.ls.length) []))) := by
    rw [List.getLast?_eq_getElem?, vmk_len, hsl, Nat.add_sub_cancel, vmk, List.getElem?_map, g1]
    rfl
  refine iteT ⟨_, rfl, 1, rfl, _, _, _, .str (S m1), rfl, rfl, .of hc8, atI_neg1 (by rw [vmk, List.getLast?_map, q1]; rfl), _, rfl, fun D nD => lc_allB walk_str (fun j => (p.ms.getD (i + q.ls.length) []).contains (m1.getD j 0)) (by rw [S_size]; have := hq.m8 _ hm1; omega) nD (fun _ _ => trivial) (fun j x H' H2 Fin hj e ⟨eh, ch, hx, ex⟩ fy => ?_) fun H9 e13 => ?_⟩
  · subst eh ex
    rw [S_get] at hx
    refine ⟨rfl, _, rfl, _, rfl, 1, rfl, _, _, _, .str (S (p.ms.getD (i + q.ls.length) [])), rfl, rfl, .of (e _ _ hg8), atI_neg1 hslk, _, _, rfl, rfl, ?_⟩
    have q := fy _ (Ex.refl _)
    rw [getD_of hx, List.contains_eq_mem] at q
    rw [S_cps]
    exact q
  rw [S_size, all_get]
  exact k _ (e12.trans e13)
end
end K21
end

/-! K21W5 -/
section
set_option Elab.async false
set_option linter.all false
set_option maxRecDepth 100000
set_option maxHeartbeats 4000000
/-! the bridges of a line -/
namespace K21
open PySem PySem.Spec PyProof.Rows L2
open Evl (Ex ex_l ex_t)
section
variable {P : Program} {w : World} {K : PySem.W.Frag} {mg : Str → Option Value} {base : Heap} {C : Addr}
def tri (b : Nat × Nat × Nat) : List V := [.int (b.1 : Nat), .int (b.2.1 : Nat), .int (b.2.2 : Nat)]
def sp_line_bridges (K : PySem.W.Frag) : Sp := fun vs H Q _ => ∃ (kl : Addr) (ks : List Pt) (p : Pt), vs = [.ref kl, .str p.txt] ∧ p.Ok ∧ H kl = some (.lst (vtx ks)) ∧ (∀ q ∈ ks, q.Ok) ∧ ks.length ≤ 16 ∧
  ∀ l H' ys, H l = none → Ex H H' → H' l = some (.lst ys) → Tups H' ys ((brs p ks).map tri) → Q (.ref l) H'
-- line_bridges: 0:kept, 1:path, 2:found, 3:last, 4:index, 5:word, 6:far, 7:i  cells: far index path word
theorem sc_line_bridges : FnScope ["kept", "path", "found", "last", "index", "word", "far", "i"] ["kept", "path"] (defScope s_line_bridges) := ⟨rfl, rfl, rfl, by decide +kernel, rfl, by decide +kernel, by decide +kernel⟩
theorem ok_line_bridges {f : Addr} {fd : FuncData} (F : FnP K "line_bridges" "line_bridges" s_line_bridges f fd) (m : mg "line_bridges" = some (.ref f)) (T : Fx K mg)  (C_steps : Cal P w K mg base "steps" 3 ["path"] (sp_steps K)) (C_fits : Cal P w K mg base "fits" 4 ["path", "i", "kept"] (sp_fits K)) : Cal P w K mg base "line_bridges" 5 ["kept", "path"] (sp_line_bridges K) := by
  refine ⟨f, fd, ?_, m, F.kp, F.bindsN fun _ _ _ _ _ _ us hl => match us, hl with | [_, _], _ => rfl⟩
  refine F.ok sc_line_bridges (fun vs H Q E h => by obtain ⟨kl, ks, p, rfl, hp, hk, ko, hz, k⟩ := h; rfl) (fun cdv A outer s H vs Q E hr h => ?_)
  obtain ⟨kl, ks, p, rfl, hp, hk, ko, hz, k⟩ := h
  have nd := sc_line_bridges.nd
  have hu := hu_of hr
  refine ⟨_, PSs.nox (pss_cons (ps_par (i := 2) (j := 3) (by rfl) nd rfl rfl (by decide) rfl rfl (pa_cons (pe_lst pa_nil) (pa_cons (pe_callB call_len_seq (by rfl) T.n_len (by decide +kernel) (pa_cons (pe_cal C_steps (hr.mono (by decide)) (by rfl) (pa_cons (pv 1) pa_nil)) pa_nil)) pa_nil)) (by rfl)) -- found, last = ([], len(steps(path)))
      (pss_cons (ps_for PassesOwn.never rfl (pi_enum (by rfl) T.n_enumerate (pa_cons (pv 0) pa_nil)) (pg_tup rfl (pgs_cons (pg_name (i := 4) nd rfl (Or.inr rfl)) (pgs_cons (pg_name (i := 5) nd rfl (Or.inr rfl)) pgs_nil)))
        (pss_cons (ps_set (i := 6) nd rfl (Or.inr rfl) (pe_callB call_len_seq (by rfl) T.n_len (by decide +kernel) (pa_cons (pe_cal C_steps (hr.mono (by decide)) (by rfl) (pa_cons (pv 5) pa_nil)) pa_nil))) -- far = len(steps(word))
        (pss_one (ps_expr (pe_bm PySem.F.plainAttrs_list PySem.F.slot_list_extend PySem.F.type_list_extend mt_extend (pv 2) (pa_cons (pe_lc (own := [("i", 7)]) (g := (gName 7)) (by rfl) nd (pi_range1 (by rfl) T.n_range (pa_cons (pe_op op_add (pe_op op_sub (pv 3) (pv 6)) pe_int) pa_nil)) (blkOk_by (N := ["kept", "path", "found", "last", "index", "word", "far", "i"]) (sc := defScope s_line_bridges) (own := [("i", 7)]) (by decide +kernel)) (fun _ _ _ _ _ => (pg_name (i := 7) nd rfl (Or.inl rfl) (.inr rfl))) (fun _ _ _ _ _ => pts_one (pt_val (pe_cal C_fits (hr.mono (by decide)) (by rfl) (pa_cons (pv 1) (pa_cons (pv 7) (pa_cons (pv 5) pa_nil)))))) (fun _ _ _ _ _ => (pe_tup (pa_cons (pv 4) (pa_cons (pv 7) (pa_cons (pe_op op_add (pv 7) (pv 6)) pa_nil)))))) pa_nil)))))) -- for index, word in enumerate(kept):
      (pss_one (ps_ret (pv 2))))), ?_⟩
  refine ⟨szk, fun fl nf => ⟨_, rfl, p, rfl, hp, fun a H2 na e2 ha => ?_⟩⟩
  have e2' := (Ex.new (o := .lst []) nf).trans e2
  have hf2 := e2 fl _ upd_same
  have hk2 := e2' kl _ hk
  refine ⟨_, _, rfl, .inl (.of ha), _, _, rfl, ?_⟩
  rw [vst_len]
  refine ⟨_, rfl, kl, _, rfl, .of hk2, ?_⟩
  have l8 := hp.l8
  refine for_it walk_enum (fun i σ H' => Ex H H' ∧ (∃ x y z, σ = [some (.ref kl), some (.str p.txt), some (.ref fl), some (.int (p.ls.length : Nat)), x, y, z, none]) ∧ ∃ ys, H' fl = some (.lst ys) ∧ Tups H' ys (((List.range i).flatMap fun j => brOne p (ks.getD j k0) j).map tri))
    ⟨e2', ⟨_, _, _, rfl⟩, [], hf2, Tups.nil⟩ (fun i σ H' _ pv => .of (pv.1 _ _ hk)) ?_ ?_
  · rintro i x σ H0 H' hi ⟨e, ⟨x1, x2, x3, rfl⟩, ys, hy, ht⟩ ⟨t, a1, b1, rfl, nt, rfl, ha1, hb1⟩
    cases ha1
    rw [vtx_len] at hi
    have hb1 : (vtx ks)[i]? = some b1 := hb1
    rw [vtx_get hi] at hb1
    cases hb1
    have hq := ko _ (List.getElem_mem hi)
    have e3 := ex_new (o := .tup [.int (i : Nat), .str (ks[i]).txt]) e nt
    have hy3 := at_new (o := .tup [.int (i : Nat), .str (ks[i]).txt]) hy nt
    have ht3 := ht.ex (Ex.new (o := .tup [.int (i : Nat), .str (ks[i]).txt]) nt)
    refine ⟨t, _, rfl, .of upd_same, rfl, _, _, rfl, _, _, rfl, rfl, ?_⟩
    generalize upd H0 t (.tup [.int (i : Nat), .str (ks[i]).txt]) = H1 at e3 hy3 ht3 ⊢
    rw [brs_take, show ks.getD i k0 = ks[i] from getD_of (List.getElem?_eq_getElem hi), List.map_append]
    have hl0 := brs_len (p := p) ks i
    generalize ks[i] = q at *
    have lq : 1 ≤ q.ls.length := List.length_pos_iff.mpr hq.ne
    have lq8 := hq.l8
    refine ⟨_, rfl, q, rfl, hq, fun a2 H3 na2 e4 ha2 => ⟨_, _, rfl, .inl (.of ha2), ?_⟩⟩
    rw [vst_len]
    have hy4 := e4 _ _ hy3
    have ht4 := ht3.ex e4
    have e5 := e3.trans e4
    refine ⟨_, rfl, .inl ⟨rfl, _, .of hy4⟩, _, rfl, _, rfl, _, _, rfl, rfl, _, _, rfl, rfl, _, rfl, by omega, by omega, fun D nD => lc_tups walk_r0 (fitB p q) (fun j => tri (i, j, j + q.ls.length)) (by omega) nD (fun _ _ => trivial) (fun j x H' H2 Fin Fn hj e6 ⟨eh, ex⟩ fy fn => ?_) fun H4 zs e6 hz4 hT => ?_⟩
    · subst eh ex
      refine ⟨rfl, _, rfl, _, rfl, _, rfl, p, q, j, rfl, hp, hq, by omega, fun H4 e7 => ⟨_, rfl, ?_⟩⟩
      cases hf : fitB p q j with
      | true => exact iteT ⟨_, rfl, _, rfl, _, rfl, _, rfl, _, _, rfl, rfl, szk, fun t nt => fy hf t _ (ex_new e7 nt) upd_same⟩
      | false => exact iteF (fn hf H4 e7)
    · have en : ((p.ls.length : Int) - (q.ls.length : Nat) + 1).toNat = p.ls.length + 1 - q.ls.length := by omega
      rw [en] at hT
      have hy5 := e6 _ _ hy4
      have hzl := hT.1
      have hyl := ht4.1
      rw [List.length_map] at hyl hzl
      have hfl := List.length_filter_le (fitB p q) (List.range (p.ls.length + 1 - q.ls.length))
      rw [List.length_range] at hfl
      have hm : i * (p.ls.length + 1) ≤ 16 * 9 := Nat.mul_le_mul (by omega) (by omega)
      refine ⟨fl, D, ys, zs, rfl, rfl, hy5, hz4, sz3 (by omega), ?_⟩
      refine ⟨ex_upd (e5.trans e6) nf, ⟨_, _, _, rfl⟩, _, upd_same, ?_⟩
      refine ((ht4.ex e6).app ?_).mono (tup_upd hy5 fun _ h => nomatch h)
      rw [brOne, List.map_map]
      exact hT
  · rintro σ H' ⟨e, ⟨x1, x2, x3, rfl⟩, ys, hy, ht⟩
    rw [vtx_len] at ht
    exact ⟨_, rfl, k fl H' ys nf e hy ht⟩
end
end K21
end

/-! K21W6 -/
section
set_option Elab.async false
set_option linter.all false
set_option maxRecDepth 100000
set_option maxHeartbeats 4000000
/-! a line: one step -/
namespace K21
open PySem PySem.Spec PyProof.Rows L2
open Evl (Ex ex_l ex_t)
/-- the class Line -/
structure ClL (K : PySem.W.Frag) (C : Addr) : Prop where
  cls : Cls K C
  n_last : NoAttr K C "last"
  n_bridges : NoAttr K C "bridges"
  n_costs : NoAttr K C "costs"
  n_came : NoAttr K C "came"
def sp_Line_leads (K : PySem.W.Frag) (C : Addr) : Sp := fun vs H Q _ => ∃ (x bl cd cm t : Addr) (N u v idx : Nat) (bk : Bool) (s : Bf.Bs), vs = [.ref x, .int (u : Nat), .int (v : Nat), .ref t, .int (Bf.b01 bk : Nat)] ∧ Ln C H x bl cd cm N s ∧ v ≤ N ∧ N ≤ 100 ∧
  H t = some (.tup [.int (idx : Nat), .str (way bk)]) ∧ ∀ H', Fr cd cm H H' → Ln C H' x bl cd cm N (Bf.lead s u v idx bk).1 → Q (.bl (Bf.lead s u v idx bk).2) H'
section
variable {P : Program} {w : World} {K : PySem.W.Frag} {mg : Str → Option Value} {base : Heap} {C : Addr}
-- Line.leads: 0:self, 1:here, 2:there, 3:pair, 4:backs, 5:cost
theorem sc_Line_leads : FnScope ["self", "here", "there", "pair", "backs", "cost"] ["self", "here", "there", "pair", "backs"] (defScope s_Line_leads) := ⟨rfl, rfl, rfl, by decide +kernel, rfl, by decide +kernel, by decide +kernel⟩
theorem ok_Line_leads {f : Addr} {fd : FuncData} (F : FnP K "leads" "Line.leads" s_Line_leads f fd) (T : Fx K mg) (B : ClL K C)  : FnOk P w K mg base CX0 1 f fd ["self", "here", "there", "pair", "backs"] (sp_Line_leads K C) := by
  refine F.ok sc_Line_leads (fun vs H Q E h => by obtain ⟨x, bl, cd, cm, t, N, u, v, idx, bk, st, rfl, hL, hv, hN, ht, k⟩ := h; rfl) (fun cdv A outer s H vs Q E hr h => ?_)
  obtain ⟨x, bl, cd, cm, t, N, u, v, idx, bk, st, rfl, hL, hv, hN, ht, k⟩ := h
  have nd := sc_Line_leads.nd
  have hu := hu_of hr
  refine ⟨_, PSs.nox (pss_cons (ps_if (pt_cmp (pc_dnotin hu (pv 1) (pe_fld (pv 0) rfl)))
        (pss_one (ps_ret pe_bl))
        pss_nil) -- if here not in self.costs:
      (pss_cons (ps_set (i := 5) nd rfl (Or.inl rfl) (pe_tup (pa_cons (pe_op op_add (pe_ix ix_tup (pe_dget hu (pe_fld (pv 0) rfl) (pv 1) (fun _ _ => rfl)) pe_int (fun _ _ => rfl)) (pv 4)) (pa_cons (pe_op op_add (pe_ix ix_tup (pe_dget hu (pe_fld (pv 0) rfl) (pv 1) (fun _ _ => rfl)) pe_int (fun _ _ => rfl)) pe_int) pa_nil)))) -- cost = (self.costs[here][0] + backs, self.costs[here][1] + 1)
      (pss_cons (ps_if (PW.pt (pw_and (pt_cmp (pc_din hu (pv 2) (pe_fld (pv 0) rfl))) (pw_and1 (pt_not (pt_cmpR (op_ltT hr.units0) (pv 5) (pe_dget hu (pe_fld (pv 0) rfl) (pv 2) (fun _ _ => rfl)) (nomark _))))))
        (pss_one (ps_ret pe_bl))
        pss_nil) -- if there in self.costs and (not cost < self.costs[there]):
      (pss_cons (ps_dput hu (pe_fld (pv 0) rfl) (pv 2) (pv 5) rfl) -- self.costs[there] = cost
      (pss_cons (ps_dput hu (pe_fld (pv 0) rfl) (pv 2) (pe_tup (pa_cons (pv 1) (pa_cons (pv 3) pa_nil))) rfl) -- self.came[there] = (here, pair)
      (pss_one (ps_ret pe_bl))))))), ?_⟩
  obtain ⟨dx, kvs, kvs2, h1, h2, h3, h4, h5, h6, h7⟩ := hL.ex
  refine ⟨_, rfl, _, rfl, x, C, dx, _, _, rfl, h1, B.cls, B.n_costs, rfl, cd, _, rfl, .k (k := .inl (u : Int)) h2, ?_⟩
  rcases h4 u with ⟨e1, e2⟩ | ⟨a, ta, e1, e2, e3⟩
  · rw [e2]
    have el : Bf.lead st u v idx bk = (st, false) := by
      unfold Bf.lead Bf.gain
      rw [e1]
    rw [el] at k
    exact ⟨_, rfl, iteT (k H (.of (Ex.refl _)) hL)⟩
  rw [e2]
  refine ⟨_, rfl, iteF ?_⟩
  have hd : DGet H cd (.int (u : Nat)) (some (.ref ta)) := by
    rw [← e2]
    exact .k (k := .inl (u : Int)) h2
  refine ⟨_, rfl, x, C, dx, _, _, rfl, h1, B.cls, B.n_costs, rfl, _, rfl, cd, _, rfl, hd, _, _, 0, _, rfl, rfl, .of e3, rfl, _, rfl, _, _, rfl, rfl,
    _, rfl, x, C, dx, _, _, rfl, h1, B.cls, B.n_costs, rfl, _, rfl, cd, _, rfl, hd, _, _, 1, _, rfl, rfl, .of e3, rfl, _, _, rfl, rfl, szk, fun p np => ?_⟩
  have ep : Ex H (upd H p (.tup [.int ((Bf.stp a (Bf.b01 bk)).1 : Nat), .int ((Bf.stp a (Bf.b01 bk)).2 : Nat)])) := Ex.new np
  have hp : upd H p (.tup [.int ((Bf.stp a (Bf.b01 bk)).1 : Nat), .int ((Bf.stp a (Bf.b01 bk)).2 : Nat)]) p = some (.tup [.int ((Bf.stp a (Bf.b01 bk)).1 : Nat), .int ((Bf.stp a (Bf.b01 bk)).2 : Nat)]) := upd_same
  show tSeq _ _ _ _ (upd H p (.tup [.int ((Bf.stp a (Bf.b01 bk)).1 : Nat), .int ((Bf.stp a (Bf.b01 bk)).2 : Nat)]))
  generalize hk : Bf.stp a (Bf.b01 bk) = kk at ep hp ⊢
  generalize upd H p (.tup [.int (kk.1 : Nat), .int (kk.2 : Nat)]) = H1 at ep hp ⊢
  have put : ∀ {σ : St} {D : Ends}, Bf.gain st.f u v (Bf.b01 bk) = some kk → D.rt = Q → σ = [some (.ref x), some (.int (u : Nat)), some (.int (v : Nat)), some (.ref t), some (.int (Bf.b01 bk : Nat)), some (.ref p)] →
      tSeq (sDPut (tFld K (tVar 0) "costs") (tVar 2) (tVar 5)) (tSeq (sDPut (tFld K (tVar 0) "came") (tVar 2) (tTup (tCons (tVar 1) (tCons (tVar 3) tNil)))) (tRet (tC (.bl true)))) D σ H1 := by
    intro σ D hg hrt hσ
    subst hσ
    have el : Bf.lead st u v idx bk = (Bf.took st u v idx bk kk, true) := by
      unfold Bf.lead
      rw [hg]
    rw [el] at k
    have h1 := ep _ _ h1
    have h2 := ep _ _ h2
    have h5 := ep _ _ h5
    have h4 := h4.ex (.of ep)
    have h7 := h7.ex (.of ep)
    have ht := ep _ _ ht
    have l1 := h3.len
    have l2 := h6.len
    have ncd : ∀ {a : Addr} {f : List V}, H1 a = some (.tup f) → a ≠ cd := fun {a f} e q => by rw [q, h2] at e; cases e
    refine ⟨_, rfl, _, rfl, x, C, dx, _, _, rfl, h1, B.cls, B.n_costs, rfl, _, rfl, cd, _, rfl, .k (k := .inl (v : Int)) h2 (small_len (by omega)), ?_⟩
    have xcd : x ≠ cd := fun q => by rw [q, h2] at h1; cases h1
    have h5' := at_ne (o := .dK (putK kvs (.inl (v : Int)) (.ref p))) h5 hL.ne.symm
    have h1' := at_ne (o := .dK (putK kvs (.inl (v : Int)) (.ref p))) h1 xcd
    have h2' : upd H1 cd (.dK (putK kvs (.inl (v : Int)) (.ref p))) cd = some (.dK (putK kvs (.inl (v : Int)) (.ref p))) := upd_same
    have tk1 : Tk H1 (upd H1 cd (.dK (putK kvs (.inl (v : Int)) (.ref p)))) := tup_upd h2 fun _ h => nomatch h
    have f1 : Fr cd cm H (upd H1 cd (.dK (putK kvs (.inl (v : Int)) (.ref p)))) := (Fr.of ep).trans .cd
    have c1 := (h4.put (v := v) hp).ex tk1
    have m1 := h7.ex tk1
    have t1 := tk1 _ _ ht
    generalize upd H1 cd (.dK (putK kvs (.inl (v : Int)) (.ref p))) = H2 at h5' h1' h2' tk1 f1 c1 m1 t1 ⊢
    refine ⟨_, rfl, _, rfl, szk, fun q nq => ?_⟩
    have e2 : Ex H2 (upd H2 q (.tup [.int (u : Nat), .ref t])) := Ex.new nq
    have q2 : upd H2 q (.tup [.int (u : Nat), .ref t]) q = some (.tup [.int (u : Nat), .ref t]) := upd_same
    generalize upd H2 q (.tup [.int (u : Nat), .ref t]) = H3 at e2 q2 ⊢
    have h5 := e2 _ _ h5'
    have h1 := e2 _ _ h1'
    have h2 := e2 _ _ h2'
    have c2 := c1.ex (.of e2)
    have m2 := (m1.ex (.of e2)).put (v := v) q2 (e2 _ _ t1)
    refine ⟨_, rfl, x, C, dx, _, _, rfl, h1, B.cls, B.n_came, rfl, _, rfl, cm, _, rfl, .k (k := .inl (v : Int)) h5 (small_len (by omega)), ?_⟩
    have xcm : x ≠ cm := fun q => by rw [q, h5] at h1; cases h1
    have tk2 : Tk H3 (upd H3 cm (.dK (putK kvs2 (.inl (v : Int)) (.ref q)))) := tup_upd h5 fun _ h => nomatch h
    have hQ := k _ ((f1.trans (.of e2)).trans .cm) ⟨⟨dx, _, _, at_ne h1 xcm, at_ne h2 hL.ne, h3.put hv _, c2.ex tk2, upd_same, h6.put hv _, m2.ex tk2⟩, hL.ne⟩
    rw [← hrt] at hQ
    exact hQ
  have h2' := ep _ _ h2
  have h1' := ep _ _ h1
  refine ⟨_, rfl, _, rfl, x, C, dx, _, _, rfl, h1', B.cls, B.n_costs, rfl, cd, _, rfl, .k (k := .inl (v : Int)) h2', ?_⟩
  rcases h4 v with ⟨f1, f2⟩ | ⟨b, tb, f1, f2, f3⟩
  · rw [f2]
    refine ⟨_, rfl, iteF (iteF (put ?_ rfl rfl))⟩
    unfold Bf.gain
    rw [e1, f1]
    exact congrArg some hk
  rw [f2]
  have hd2 : DGet H1 cd (.int (v : Nat)) (some (.ref tb)) := by
    rw [← f2]
    exact .k (k := .inl (v : Int)) h2'
  refine ⟨_, rfl, iteT ⟨_, rfl, _, rfl, x, C, dx, _, _, rfl, h1', B.cls, B.n_costs, rfl, _, rfl, cd, _, rfl, hd2, _, _, [((kk.1 : Nat) : Int), ((kk.2 : Nat) : Int)], [((b.1 : Nat) : Int), ((b.2 : Nat) : Int)], rfl, rfl, .of hp, .of (ep _ _ f3), _, rfl, ?_⟩⟩
  rw [lexLt_clt]
  cases hc : Bf.clt kk b with
  | true =>
    refine iteF (put ?_ rfl rfl)
    unfold Bf.gain
    rw [e1, f1]
    show (if Bf.clt (Bf.stp a (Bf.b01 bk)) b = true then _ else _) = _
    rw [hk, if_pos hc]
  | false =>
    have el : Bf.lead st u v idx bk = (st, false) := by
      unfold Bf.lead Bf.gain
      rw [e1, f1]
      show (match (if Bf.clt (Bf.stp a (Bf.b01 bk)) b = true then some (Bf.stp a (Bf.b01 bk)) else none) with | none => (st, false) | some k => (Bf.took st u v idx bk k, true)) = _
      rw [hk, if_neg (by rw [hc]; exact Bool.false_ne_true)]
    rw [el] at k
    exact iteT (k _ (.of ep) (hL.up ep))
end
end K21
end

/-! K21W7 -/
section
set_option Elab.async false
set_option linter.all false
set_option maxRecDepth 100000
set_option maxHeartbeats 4000000
/-! a line is made -/
namespace K21
open PySem PySem.Spec PyProof.Rows L2
open Evl (Ex ex_l ex_t)
/-- a line that is made -/
def LnOk (C : Addr) (H : Hp) (x : Addr) (p : Pt) (ks : List Pt) : Prop := ∃ bl cd cm n, Ln C H x bl cd cm p.ls.length (Bf.sB (brs p ks) (n + 1)).1 ∧ (Bf.sB (brs p ks) (n + 1)).2 = false
theorem LnOk.up {C : Addr} {H H' : Hp} {x : Addr} {p : Pt} {ks : List Pt} (h : LnOk C H x p ks) (e : Ex H H') : LnOk C H' x p ks := by
  obtain ⟨bl, cd, cm, n, h1, h2⟩ := h
  exact ⟨bl, cd, cm, n, h1.up e, h2⟩
def sp_Line_init (K : PySem.W.Frag) (C : Addr) : Sp := fun vs H Q _ => ∃ (x kl dx : Addr) (H0 : Hp) (ks : List Pt) (p : Pt), vs = [.ref x, .ref kl, .str p.txt] ∧ H x = some (.ins C dx []) ∧ H0 x = none ∧ Ex H0 H ∧ H kl = some (.lst (vtx ks)) ∧ (∀ q ∈ ks, q.Ok) ∧ ks.length ≤ 16 ∧ p.Ok ∧
  ∀ H', Ex H0 H' → LnOk C H' x p ks → Q .non H'
theorem br_ok {p : Pt} {ks : List Pt} (ko : ∀ q ∈ ks, q.Ok) : Bf.BrOk p.ls.length (brs p ks) := by
  refine ⟨fun b hb => ?_, fun b hb => ?_⟩
  · obtain ⟨k, hk, _, e, le⟩ := mem_brs hb
    exact ⟨by omega, by omega⟩
  · obtain ⟨k, hk, _, e, le⟩ := mem_brs hb
    have := List.length_pos_iff.mpr (ko k (List.mem_of_getElem? hk)).ne
    omega
section
variable {P : Program} {w : World} {K : PySem.W.Frag} {mg : Str → Option Value} {base : Heap} {CL : Addr}
-- Line.__init__: 0:self, 1:kept, 2:path, 3:is_changed, 4:index, 5:i, 6:j
theorem sc_Line_init : FnScope ["self", "kept", "path", "is_changed", "index", "i", "j"] ["self", "kept", "path"] (defScope s_Line_init) := ⟨rfl, rfl, rfl, by decide +kernel, rfl, by decide +kernel, by decide +kernel⟩
theorem ok_Line_init {f : Addr} {fd : FuncData} (F : FnP K "__init__" "Line.__init__" s_Line_init f fd) (T : Fx K mg) (B : ClL K CL) (C_line_bridges : Cal P w K mg base "line_bridges" 5 ["kept", "path"] (sp_line_bridges K)) (C_steps : Cal P w K mg base "steps" 3 ["path"] (sp_steps K)) (C_Line_leads : Mth P w K mg base CL "leads" 1 ["self", "here", "there", "pair", "backs"] (sp_Line_leads K CL)) : FnOk P w K mg base CX0 6 f fd ["self", "kept", "path"] (sp_Line_init K CL) := by
  refine F.ok sc_Line_init (fun vs H Q E h => by obtain ⟨x, kl, dx, H0, ks, p, rfl, hx, nx, e0, hk, ko, hz, hp, k⟩ := h; rfl) (fun cdv A outer s H vs Q E hr h => ?_)
  obtain ⟨x, kl, dx, H0, ks, p, rfl, hx, nx, e0, hk, ko, hz, hp, k⟩ := h
  have nd := sc_Line_init.nd
  have hu := hu_of hr
  obtain ⟨f_leads, d_leads, F_leads, c_leads, m_leads, b_leads⟩ := C_Line_leads.ex
  refine ⟨_, PSs.nox (pss_cons (ps_fld (pv 0) (pe_callB call_len_seq (by rfl) T.n_len (by decide +kernel) (pa_cons (pe_cal C_steps (hr.mono (by decide)) (by rfl) (pa_cons (pv 2) pa_nil)) pa_nil)) rfl) -- self.last = len(steps(path))
      (pss_cons (ps_fld (pv 0) (pe_cal C_line_bridges (hr.mono (by decide)) (by rfl) (pa_cons (pv 1) (pa_cons (pv 2) pa_nil))) rfl) -- self.bridges = line_bridges(kept, path)
      (pss_cons (ps_fld (pv 0) (pe_disp (pps_cons pe_int (pe_tup (pa_cons pe_int (pa_cons pe_int pa_nil))) pps_nil) (by rfl) (by rfl) (fun z => by cases z) (by decide)) rfl) -- self.costs = {0: (0, 0)}
      (pss_cons (ps_fld (pv 0) pe_dnewK rfl) -- self.came = {}
      (pss_cons (ps_set (i := 3) nd rfl (Or.inl rfl) pe_bl) -- is_changed = True
      (pss_one (ps_while PassesOwn.never (pt_val (pv 3))
        (pss_cons (ps_set (i := 3) nd rfl (Or.inl rfl) pe_bl) -- is_changed = False
        (pss_one (ps_for PassesOwn.never rfl (pi_list (pe_fld (pv 0) rfl)) (pg_tup rfl (pgs_cons (pg_name (i := 4) nd rfl (Or.inl rfl)) (pgs_cons (pg_name (i := 5) nd rfl (Or.inl rfl)) (pgs_cons (pg_name (i := 6) nd rfl (Or.inl rfl)) pgs_nil))))
          (pss_one (ps_if (PW.pt (pw_or (pt_val (pe_meth (pv 0) c_leads m_leads F_leads (hr.mono (by decide)) b_leads .nil pass0 (pa_cons (pv 5) (pa_cons (pv 6) (pa_cons (pe_tup (pa_cons (pv 4) (pa_cons pe_str pa_nil))) (pa_cons pe_int pa_nil)))))) (pw_or1 (pt_val (pe_meth (pv 0) c_leads m_leads F_leads (hr.mono (by decide)) b_leads .nil pass0 (pa_cons (pv 6) (pa_cons (pv 5) (pa_cons (pe_tup (pa_cons (pv 4) (pa_cons pe_str pa_nil))) (pa_cons pe_int pa_nil)))))))))
            (pss_one (ps_set (i := 3) nd rfl (Or.inl rfl) pe_bl))
            pss_nil)))))))))))), ?_⟩
  have l8 := hp.l8
  have xn : ∀ {H' : Hp} {o : HO}, Ex H0 H' → Ex H0 (upd H' x o) := fun e => ex_upd e nx
  refine ⟨_, rfl, p, rfl, hp, fun a H1 na e1 ha => ⟨_, _, rfl, .inl (.of ha), _, rfl, x, CL, dx, _, rfl, e1 _ _ hx, B.cls, B.n_last, by decide, ?_⟩⟩
  rw [vst_len]
  have kx : kl ≠ x := fun e => by rw [e, hx] at hk; cases hk
  have E1 := xn (o := .ins CL dx (putF "last" (.int (p.ls.length : Nat)) [])) (e0.trans e1)
  have hk1 := at_ne (o := .ins CL dx (putF "last" (.int (p.ls.length : Nat)) [])) (e1 _ _ hk) kx
  have hx1 : upd H1 x (.ins CL dx (putF "last" (.int (p.ls.length : Nat)) [])) x = some (.ins CL dx (putF "last" (.int (p.ls.length : Nat)) [])) := upd_same
  generalize upd H1 x (.ins CL dx (putF "last" (.int (p.ls.length : Nat)) [])) = H2 at E1 hk1 hx1 ⊢
  refine ⟨_, rfl, _, rfl, kl, ks, p, rfl, hp, hk1, ko, hz, fun bl H3 ys nb e3 hb hT => ⟨_, rfl, x, CL, dx, _, rfl, e3 _ _ hx1, B.cls, B.n_bridges, (by show 1 < 1000; decide), ?_⟩⟩
  have bx : bl ≠ x := fun e => by rw [e, hx1] at nb; cases nb
  have E2 := xn (o := .ins CL dx (putF "bridges" (.ref bl) (putF "last" (.int (p.ls.length : Nat)) []))) (E1.trans e3)
  have hb1 := at_ne (o := .ins CL dx (putF "bridges" (.ref bl) (putF "last" (.int (p.ls.length : Nat)) []))) hb bx
  have hx2 : upd H3 x (.ins CL dx (putF "bridges" (.ref bl) (putF "last" (.int (p.ls.length : Nat)) []))) x = some (.ins CL dx (putF "bridges" (.ref bl) (putF "last" (.int (p.ls.length : Nat)) []))) := upd_same
  have hT1 := hT.mono (tup_upd (o := .ins CL dx (putF "bridges" (.ref bl) (putF "last" (.int (p.ls.length : Nat)) []))) (e3 _ _ hx1) fun _ h => nomatch h)
  generalize upd H3 x (.ins CL dx (putF "bridges" (.ref bl) (putF "last" (.int (p.ls.length : Nat)) []))) = H4 at E2 hb1 hx2 hT1 ⊢
  refine fun cd ncd => ⟨szk, fun t nt => ⟨at_new upd_same nt, [(.inl 0, .ref t)], rfl, by simp, ?_⟩⟩
  have E3 := ex_new (o := .tup [.int 0, .int 0]) (ex_new (o := .dK []) E2 ncd) nt
  have hb2 := at_new (o := .tup [.int 0, .int 0]) (at_new (o := .dK []) hb1 ncd) nt
  have hx3 := at_new (o := .tup [.int 0, .int 0]) (at_new (o := .dK []) hx2 ncd) nt
  have hT2 := (hT1.ex (Ex.new (o := .dK []) ncd)).ex (Ex.new (o := .tup [.int 0, .int 0]) nt)
  have ht2 : upd (upd H4 cd (.dK [])) t (.tup [.int 0, .int 0]) t = some (.tup [.int 0, .int 0]) := upd_same
  have hc2 : upd (upd H4 cd (.dK [])) t (.tup [.int 0, .int 0]) cd = some (.dK []) := at_new upd_same nt
  have cd0 : H0 cd = none := fresh E2 ncd
  have bcd : bl ≠ cd := fun e => by rw [e, hc2] at hb2; cases hb2
  have xcd : x ≠ cd := fun e => by rw [e, hc2] at hx3; cases hx3
  have E4 := ex_upd (o := .dK (mergeK [] [(.inl 0, .ref t)])) E3 cd0
  have hb3 := at_ne (o := .dK (mergeK [] [(.inl 0, .ref t)])) hb2 bcd
  have hx4 := at_ne (o := .dK (mergeK [] [(.inl 0, .ref t)])) hx3 xcd
  have tk := tup_upd (o := .dK (mergeK [] [(.inl 0, .ref t)])) hc2 fun _ h => nomatch h
  have hT3 := hT2.mono tk
  have ht3 := tk _ _ ht2
  have hc3 : upd (upd (upd H4 cd (.dK [])) t (.tup [.int 0, .int 0])) cd (.dK (mergeK [] [(.inl 0, .ref t)])) cd = some (.dK [(.inl 0, .ref t)]) := upd_same
  generalize upd (upd (upd H4 cd (.dK [])) t (.tup [.int 0, .int 0])) cd (.dK (mergeK [] [(.inl 0, .ref t)])) = H5 at E4 hb3 hx4 hT3 ht3 hc3 ⊢
  refine ⟨_, rfl, x, CL, dx, _, rfl, hx4, B.cls, B.n_costs, (by show 2 < 1000; decide), ?_⟩
  have cdx : cd ≠ x := xcd.symm
  have E5 := xn (o := .ins CL dx (putF "costs" (.ref cd) (putF "bridges" (.ref bl) (putF "last" (.int (p.ls.length : Nat)) [])))) E4
  have hb4 := at_ne (o := .ins CL dx (putF "costs" (.ref cd) (putF "bridges" (.ref bl) (putF "last" (.int (p.ls.length : Nat)) [])))) hb3 bx
  have tk := tup_upd (o := .ins CL dx (putF "costs" (.ref cd) (putF "bridges" (.ref bl) (putF "last" (.int (p.ls.length : Nat)) [])))) hx4 fun _ h => nomatch h
  have hT4 := hT3.mono tk
  have ht4 := tk _ _ ht3
  have hc4 := at_ne (o := .ins CL dx (putF "costs" (.ref cd) (putF "bridges" (.ref bl) (putF "last" (.int (p.ls.length : Nat)) [])))) hc3 cdx
  have hx5 : upd H5 x (.ins CL dx (putF "costs" (.ref cd) (putF "bridges" (.ref bl) (putF "last" (.int (p.ls.length : Nat)) [])))) x = some (.ins CL dx (putF "costs" (.ref cd) (putF "bridges" (.ref bl) (putF "last" (.int (p.ls.length : Nat)) [])))) := upd_same
  generalize upd H5 x (.ins CL dx (putF "costs" (.ref cd) (putF "bridges" (.ref bl) (putF "last" (.int (p.ls.length : Nat)) [])))) = H6 at E5 hb4 hT4 ht4 hc4 hx5 ⊢
  refine fun cm ncm => ⟨_, rfl, x, CL, dx, _, rfl, at_new hx5 ncm, B.cls, B.n_came, (by show 3 < 1000; decide), ?_⟩
  have cm0 : H0 cm = none := fresh E5 ncm
  have cmx : cm ≠ x := fun e => by rw [e, hx5] at ncm; cases ncm
  have E6 := xn (o := .ins CL dx (putF "came" (.ref cm) (putF "costs" (.ref cd) (putF "bridges" (.ref bl) (putF "last" (.int (p.ls.length : Nat)) []))))) (ex_new (o := .dK []) E5 ncm)
  have hb5 := at_ne (o := .ins CL dx (putF "came" (.ref cm) (putF "costs" (.ref cd) (putF "bridges" (.ref bl) (putF "last" (.int (p.ls.length : Nat)) []))))) (at_new (o := .dK []) hb4 ncm) bx
  have hc5 := at_ne (o := .ins CL dx (putF "came" (.ref cm) (putF "costs" (.ref cd) (putF "bridges" (.ref bl) (putF "last" (.int (p.ls.length : Nat)) []))))) (at_new (o := .dK []) hc4 ncm) cdx
  have tk := tup_upd (o := .ins CL dx (putF "came" (.ref cm) (putF "costs" (.ref cd) (putF "bridges" (.ref bl) (putF "last" (.int (p.ls.length : Nat)) []))))) (at_new (o := .dK []) hx5 ncm) fun _ h => nomatch h
  have hT5 := (hT4.ex (Ex.new (o := .dK []) ncm)).mono tk
  have ht5 := tk _ _ (at_new (o := .dK []) ht4 ncm)
  have hm5 := at_ne (o := .ins CL dx (putF "came" (.ref cm) (putF "costs" (.ref cd) (putF "bridges" (.ref bl) (putF "last" (.int (p.ls.length : Nat)) []))))) (upd_same (H := H6) (a := cm) (o := .dK [])) cmx
  have hx6 : upd (upd H6 cm (.dK [])) x (.ins CL dx (putF "came" (.ref cm) (putF "costs" (.ref cd) (putF "bridges" (.ref bl) (putF "last" (.int (p.ls.length : Nat)) []))))) x = some (.ins CL dx [("last", .int (p.ls.length : Nat)), ("bridges", .ref bl), ("costs", .ref cd), ("came", .ref cm)]) := upd_same
  generalize upd (upd H6 cm (.dK [])) x (.ins CL dx (putF "came" (.ref cm) (putF "costs" (.ref cd) (putF "bridges" (.ref bl) (putF "last" (.int (p.ls.length : Nat)) []))))) = H7 at E6 hb5 hc5 hT5 ht5 hm5 hx6 ⊢
  have ncm' : cd ≠ cm := fun e => by rw [e, ncm] at hc4; cases hc4
  have bcm : bl ≠ cm := fun e => by rw [e, ncm] at hb4; cases hb4
  have hL : Ln CL H7 x bl cd cm p.ls.length (Bf.sB (brs p ks) 0).1 := ⟨⟨dx, _, _, hx6, hc5, .zero _ _, .zero ht5, hm5, .nil _, fun _ _ _ _ h => nomatch h⟩, ncm'⟩
  clear hx hx1 hx2 hx3 hx4 hx5 hb hb1 hb2 hb3 hb4 hT hT1 hT2 hT3 hT4 ht2 ht3 ht4 hc2 hc3 hc4 E1 E2 E3 E4 E5 hx6 ht5 hm5 hc5 tk
  have ok := br_ok (p := p) ko
  have hym : ys.length ≤ 16 * 9 := by
    rw [hT5.1, List.length_map]
    exact Nat.le_trans (brs_len ks ks.length) (Nat.mul_le_mul hz (by omega))
  generalize hbs : brs p ks = bs at hT5 hL ok
  refine ⟨fun m σ H' => ∃ n, m = p.ls.length + 2 - n ∧ (∃ i1 i2 i3, σ = [some (.ref x), some (.ref kl), some (.str p.txt), some (.bl (Bf.sB bs n).2), i1, i2, i3]) ∧ Ex H0 H' ∧ H' bl = some (.lst ys) ∧ Tups H' ys (bs.map tri) ∧ Ln CL H' x bl cd cm p.ls.length (Bf.sB bs n).1,
    ⟨_, 0, rfl, ⟨_, _, _, rfl⟩, E6, hb5, hT5, hL⟩, ?_⟩
  rintro m σ H' ⟨n, rfl, ⟨i1, i2, i3, rfl⟩, E7, hb6, hT6, hL6⟩
  refine ⟨_, rfl, _, rfl, ?_⟩
  cases hf : (Bf.sB bs n).2 with
  | false =>
    cases n with
    | zero => cases hf
    | succ n => exact iteF (k H' E7 ⟨bl, cd, cm, n, by rw [hbs]; exact hL6, by rw [hbs]; exact hf⟩)
  | true =>
    have hn : n ≤ p.ls.length := by
      cases n with
      | zero => exact Nat.zero_le _
      | succ n => exact Bf.on_lt ok hf
    refine iteT ⟨_, fun _ _ h => h, ?_⟩
    obtain ⟨dx', kvs, kvs2, g1, _⟩ := hL6.ex
    refine ⟨_, rfl, x, CL, dx', _, _, rfl, g1, B.cls, B.n_bridges, rfl, bl, rfl, ⟨_, .of hb6⟩, ?_⟩
    refine for_it walk_list (fun i σ H' => (∃ i1 i2 i3, σ = [some (.ref x), some (.ref kl), some (.str p.txt), some (.bl ((bs.take i).foldl Bf.turnB ((Bf.sB bs n).1, false)).2), i1, i2, i3]) ∧ Ex H0 H' ∧ H' bl = some (.lst ys) ∧ Tups H' ys (bs.map tri) ∧ Ln CL H' x bl cd cm p.ls.length ((bs.take i).foldl Bf.turnB ((Bf.sB bs n).1, false)).1)
      ⟨⟨_, _, _, rfl⟩, E7, hb6, hT6, hL6⟩ (fun i σ H' _ pv => .of pv.2.2.1) ?_ ?_
    · rintro i v σ H0' H1 hi ⟨⟨j1, j2, j3, rfl⟩, E8, hb7, hT7, hL7⟩ ⟨rfl, hv⟩
      have hib : i < bs.length := by
        have := hT7.1
        rw [List.length_map] at this
        omega
      have hbi : bs[i]? = some bs[i] := List.getElem?_eq_getElem hib
      obtain ⟨tt, rfl, htt⟩ := hT7.2 i v (tri bs[i]) hv (by rw [List.getElem?_map, hbi]; rfl)
      rw [fold_take _ _ hbi]
      have hbm : bs[i] ∈ bs := List.getElem_mem hib
      have hle := ok.le _ hbm
      generalize (bs.take i).foldl Bf.turnB ((Bf.sB bs n).1, false) = q at *
      generalize bs[i] = b at *
      refine ⟨tt, _, rfl, .of htt, rfl, _, _, rfl, _, _, rfl, _, _, rfl, rfl, ?_⟩
      obtain ⟨dx1, kv1, kv2, g1, g2, _, _, g5, _⟩ := hL7.ex
      have bcd7 : bl ≠ cd := bcd
      refine ⟨_, rfl, x, dx1, _, rfl, g1, rfl, _, rfl, _, rfl, _, rfl, szk, fun t1 nt1 => ?_⟩
      refine ⟨x, bl, cd, cm, t1, p.ls.length, b.2.1, b.2.2, b.1, false, q.1, rfl, hL7.up (Ex.new nt1), hle.2, by omega, upd_same, fun H2 fr hL8 => ⟨_, rfl, ?_⟩⟩
      have E9 := fr.ex (ex_new (o := .tup [.int (b.1 : Nat), .str (way false)]) E8 nt1) cd0 cm0
      have hb8 := fr _ _ (at_new (o := .tup [.int (b.1 : Nat), .str (way false)]) hb7 nt1) bcd bcm
      have hT8 := (hT7.ex (Ex.new (o := .tup [.int (b.1 : Nat), .str (way false)]) nt1)).mono (fr.tk (hL7.up (Ex.new nt1)))
      cases hl1 : (Bf.lead q.1 b.2.1 b.2.2 b.1 false).2 with
      | true =>
        have et : Bf.turnB q b = ((Bf.lead q.1 b.2.1 b.2.2 b.1 false).1, true) := if_pos hl1
        rw [et]
        exact iteT (iteT ⟨⟨_, _, _, rfl⟩, E9, hb8, hT8, hL8⟩)
      | false =>
        have et : Bf.turnB q b = ((Bf.lead q.1 b.2.2 b.2.1 b.1 true).1, q.2 || (Bf.lead q.1 b.2.2 b.2.1 b.1 true).2) := if_neg (by rw [hl1]; exact Bool.false_ne_true)
        rw [et]
        rw [(Bf.lead_no hl1).1] at hL8
        obtain ⟨dx2, kv3, kv4, g6, _⟩ := hL8.ex
        refine iteF ⟨_, rfl, x, dx2, _, rfl, g6, rfl, _, rfl, _, rfl, _, rfl, szk, fun t2 nt2 => ?_⟩
        refine ⟨x, bl, cd, cm, t2, p.ls.length, b.2.2, b.2.1, b.1, true, q.1, rfl, hL8.up (Ex.new nt2), hle.1, by omega, upd_same, fun H3 fr2 hL9 => ⟨_, rfl, ?_⟩⟩
        have E10 := fr2.ex (ex_new (o := .tup [.int (b.1 : Nat), .str (way true)]) E9 nt2) cd0 cm0
        have hb9 := fr2 _ _ (at_new (o := .tup [.int (b.1 : Nat), .str (way true)]) hb8 nt2) bcd bcm
        have hT9 := (hT8.ex (Ex.new (o := .tup [.int (b.1 : Nat), .str (way true)]) nt2)).mono (fr2.tk (hL8.up (Ex.new nt2)))
        cases hl2 : (Bf.lead q.1 b.2.2 b.2.1 b.1 true).2 with
        | true =>
          rw [Bool.or_true]
          exact iteT ⟨⟨_, _, _, rfl⟩, E10, hb9, hT9, hL9⟩
        | false =>
          rw [Bool.or_false]
          exact iteF ⟨⟨_, _, _, rfl⟩, E10, hb9, hT9, hL9⟩
    · rintro σ H1 ⟨⟨j1, j2, j3, rfl⟩, E8, hb7, hT7, hL7⟩
      have el : (bs.take ys.length).foldl Bf.turnB ((Bf.sB bs n).1, false) = Bf.sB bs (n + 1) := by
        rw [show ys.length = bs.length by rw [hT7.1, List.length_map], List.take_length]
        rfl
      rw [el] at hL7 ⊢
      exact ⟨p.ls.length + 2 - (n + 1), by omega, n + 1, rfl, ⟨_, _, _, rfl⟩, E8, hb7, hT7, hL7⟩
end
end K21
end

/-! K21W8 -/
section
set_option Elab.async false
set_option linter.all false
set_option maxRecDepth 100000
set_option maxHeartbeats 4000000
/-! a line's plan -/
namespace K21
open PySem PySem.Spec PyProof.Rows L2
open Evl (Ex ex_l ex_t)
/-- the cost of the last place, if it is reached -/
def costOf (p : Pt) (ks : List Pt) : Option Bf.Cost := Bf.rnds (Bf.edges (brs p ks)) (2 * p.ls.length + 2) p.ls.length
def prW (q : Nat × Bool) : List V := [.int (q.1 : Nat), .str (way q.2)]
/-- a plan that stands at l -/
def PlanAt (H : Hp) (l : Addr) (p : Pt) (ks : List Pt) (a : Bf.Cost) : Prop := ∃ ys pl, H l = some (.lst ys) ∧ Tups H ys (pl.map prW) ∧ Bf.Chain (brs p ks) p.ls.length 0 pl ∧ Bf.backs pl = a.1 ∧ pl.length = a.2
def sp_Line_told_plan (K : PySem.W.Frag) (C : Addr) : Sp := fun vs H Q _ => ∃ (x : Addr) (p : Pt) (ks : List Pt), vs = [.ref x] ∧ LnOk C H x p ks ∧ (∀ q ∈ ks, q.Ok) ∧ p.Ok ∧
  (costOf p ks = none → Q .non H) ∧ ∀ a l H', costOf p ks = some a → H l = none → Ex H H' → PlanAt H' l p ks a → Q (.ref l) H'
section
variable {P : Program} {w : World} {K : PySem.W.Frag} {mg : Str → Option Value} {base : Heap} {C : Addr}
-- Line.told_plan: 0:self, 1:found, 2:place, 3:pair
theorem sc_Line_told_plan : FnScope ["self", "found", "place", "pair"] ["self"] (defScope s_Line_told_plan) := ⟨rfl, rfl, rfl, by decide +kernel, rfl, by decide +kernel, by decide +kernel⟩
theorem ok_Line_told_plan {f : Addr} {fd : FuncData} (F : FnP K "told_plan" "Line.told_plan" s_Line_told_plan f fd) (T : Fx K mg) (B : ClL K C)  : FnOk P w K mg base CX0 1 f fd ["self"] (sp_Line_told_plan K C) := by
  refine F.ok sc_Line_told_plan (fun vs H Q E h => by obtain ⟨x, p, ks, rfl, hL, ko, hp, k1, k2⟩ := h; rfl) (fun cdv A outer s H vs Q E hr h => ?_)
  obtain ⟨x, p, ks, rfl, hL, ko, hp, k1, k2⟩ := h
  have nd := sc_Line_told_plan.nd
  have hu := hu_of hr
  refine ⟨_, PSs.nox (pss_cons (ps_if (pt_cmp (pc_dnotin hu (pe_fld (pv 0) rfl) (pe_fld (pv 0) rfl)))
        (pss_one (ps_ret pe_non))
        pss_nil) -- if self.last not in self.costs:
      (pss_cons (ps_par (i := 1) (j := 2) (by rfl) nd rfl rfl (by decide) rfl rfl (pa_cons (pe_lst pa_nil) (pa_cons (pe_fld (pv 0) rfl) pa_nil)) (by rfl)) -- found, place = ([], self.last)
      (pss_cons (ps_while PassesOwn.never (pt_cmpR op_ne (pv 2) pe_int (nomark _))
        (pss_cons (ps_asg (pe_dget hu (pe_fld (pv 0) rfl) (pv 2) (fun _ _ => rfl)) (pg_tup rfl (pgs_cons (pg_name (i := 2) nd rfl (Or.inl rfl)) (pgs_cons (pg_name (i := 3) nd rfl (Or.inl rfl)) pgs_nil)))) -- place, pair = self.came[place]
        (pss_one (ps_expr (pe_bm PySem.F.plainAttrs_list PySem.F.slot_list_append PySem.F.type_list_append mt_append (pv 1) (pa_cons (pv 3) pa_nil)))))) -- while place != 0:
      (pss_one (ps_ret (pe_revL (pv 1))))))), ?_⟩
  obtain ⟨bl, cd, cm, n, hL, hoff⟩ := hL
  have ok := br_ok (p := p) ko
  have ef := Bf.off_all ok hoff (m := 2 * p.ls.length + 2) (by omega)
  have l8 := hp.l8
  obtain ⟨dx, kvs, kvs2, h1, h2, h3, h4, h5, h6, h7⟩ := hL.ex
  refine ⟨_, rfl, x, C, dx, _, _, rfl, h1, B.cls, B.n_last, rfl, _, rfl, x, C, dx, _, _, rfl, h1, B.cls, B.n_costs, rfl, cd, _, rfl, .k (k := .inl (p.ls.length : Int)) h2, ?_⟩
  generalize hN : p.ls.length = N at *
  rcases h4 N with ⟨e1, e2⟩ | ⟨a, ta, e1, e2, e3⟩
  · rw [e2]
    refine ⟨_, rfl, iteT (k1 ?_)⟩
    unfold costOf
    rw [hN, ← ef]
    exact e1
  rw [e2]
  have hc : costOf p ks = some a := by
    unfold costOf
    rw [hN, ← ef]
    exact e1
  have ca : a.2 ≤ N := cost_le (Bf.edges_in ok.le) (m := 2 * N + 2) (by omega) (by rw [← ef]; exact e1)
  refine ⟨_, rfl, iteF ⟨szk, fun fl nf => ⟨_, rfl, x, C, dx, _, _, rfl, at_new h1 nf, B.cls, B.n_last, rfl, _, _, rfl, ?_⟩⟩⟩
  generalize hbs : brs p ks = bs at *
  generalize hS : (Bf.sB bs (n + 1)).1 = st at *
  refine ⟨fun m σ H' => ∃ (u : Nat) (b : Bf.Cost) (rev : List (Nat × Bool)) (ys : List V) (x3 : Option V), m = b.2 ∧ σ = [some (.ref x), some (.ref fl), some (.int (u : Nat)), x3] ∧ st.f u = some b ∧ Ex H H' ∧ H' fl = some (.lst ys) ∧ Tups H' ys (rev.map prW) ∧ Bf.Chain bs N u rev.reverse ∧ b.1 + Bf.backs rev = a.1 ∧ b.2 + rev.length = a.2,
    ⟨_, N, a, [], [], _, rfl, rfl, e1, Ex.new nf, upd_same, Tups.nil, .nil, rfl, rfl⟩, ?_⟩
  rintro m σ H' ⟨u, b, rev, ys, x3, rfl, rfl, f1, E1, hf, hT, hch, hb1, hb2⟩
  refine ⟨_, rfl, rfl, _, rfl, ?_⟩
  by_cases hu0 : u = 0
  · subst hu0
    have hz : st.f 0 = some (0, 0) := by rw [← hS]; exact (Bf.came_n ok.ne (n + 1)).zero
    rw [hz] at f1
    cases f1
    show (if (!decide (V.int ((0 : Nat) : Int) = V.int 0)) = true then _ else _)
    rw [decide_eq_true (show V.int ((0 : Nat) : Int) = V.int 0 from rfl)]
    refine iteF ⟨_, rfl, fl, ys, rfl, .of hf, fun q nq => k2 a q _ hc (fresh E1 nq) (ex_new E1 nq) ⟨ys.reverse, rev.reverse, upd_same, ?_, ?_, ?_, ?_⟩⟩
    · rw [List.map_reverse]
      exact (hT.ex (Ex.new nq)).rev
    · rw [hbs, hN]
      exact hch
    · rw [Bf.backs_rev, ← hb1, Nat.zero_add]
    · rw [List.length_reverse, ← hb2, Nat.zero_add]
  · show (if (!decide (V.int (u : Nat) = V.int 0)) = true then _ else _)
    rw [decide_eq_false (fun e => hu0 (by injection e with e; omega))]
    refine iteT ⟨_, fun _ _ h => h, ?_⟩
    obtain ⟨u', idx, bk, b', g1, g2, g3, g4⟩ := Bf.off_came ok hoff (v := u) (a := b) hu0 (by rw [hS]; exact f1)
    rw [hS] at g1 g2
    obtain ⟨t, t2, r1, r2, r3⟩ := h7 u u' idx bk g1
    have hg : DGet H' cm (.int (u : Nat)) (some (.ref t)) := by
      rw [← r1]
      exact .k (k := .inl (u : Int)) (E1 _ _ h5)
    refine ⟨_, rfl, x, C, dx, _, _, rfl, E1 _ _ h1, B.cls, B.n_came, rfl, _, rfl, cm, _, rfl, hg, ?_⟩
    refine ⟨t, _, rfl, .of (E1 _ _ r2), rfl, _, _, rfl, _, _, rfl, rfl, ?_⟩
    have hyl := hT.1
    rw [List.length_map] at hyl
    refine ⟨_, rfl, .inl ⟨rfl, _, .of hf⟩, _, rfl, fl, ys, _, rfl, rfl, hf, small_len (by omega), ?_⟩
    rw [g3] at hb1 hb2
    refine ⟨b'.2, by rw [g3]; exact Nat.lt_succ_self _, u', b', rev ++ [(idx, bk)], _, _, rfl, rfl, g2, ex_upd E1 nf, upd_same, ?_, ?_, ?_, ?_⟩
    · rw [List.map_append]
      exact (hT.app (Tups.one (E1 _ _ r3))).mono (tup_upd hf fun _ h => nomatch h)
    · rw [List.reverse_append]
      exact .cons g4 hch
    · rw [Bf.backs_snoc, ← hb1]
      show b'.1 + (Bf.backs rev + Bf.b01 bk) = b'.1 + Bf.b01 bk + Bf.backs rev
      omega
    · rw [List.length_append, ← hb2]
      show b'.2 + (rev.length + 1) = b'.2 + 1 + rev.length
      omega
end
end K21
end

/-! K21W9 -/
section
set_option Elab.async false
set_option linter.all false
set_option maxRecDepth 100000
set_option maxHeartbeats 4000000
/-! whether a path is told -/
namespace K21
open PySem PySem.Spec PyProof.Rows L2
open Evl (Ex ex_l ex_t)
def sp_plan_of (K : PySem.W.Frag) : Sp := fun vs H Q _ => ∃ (kl : Addr) (p : Pt) (ks : List Pt), vs = [.str "any", .ref kl, .str p.txt] ∧ H kl = some (.lst (vtx ks)) ∧ (∀ q ∈ ks, q.Ok) ∧ ks.length ≤ 16 ∧ p.Ok ∧
  (costOf p ks = none → ∀ H', Ex H H' → Q .non H') ∧ ∀ a l H', costOf p ks = some a → H l = none → Ex H H' → PlanAt H' l p ks a → Q (.ref l) H'
def sp_tells_path (K : PySem.W.Frag) : Sp := fun vs H Q _ => ∃ (kl : Addr) (p : Pt) (ks : List Pt), vs = [.str "any", .ref kl, .str p.txt] ∧ H kl = some (.lst (vtx ks)) ∧ (∀ q ∈ ks, q.Ok) ∧ ks.length ≤ 16 ∧ p.Ok ∧
  RetV (.bl (costOf p ks).isSome) H Q
def sp_is_told (K : PySem.W.Frag) (C : Addr) : Sp := fun vs H Q _ => ∃ (b : Addr) (p : Pt) (ks : List Pt), vs = [.ref b, .str p.txt] ∧ Bk C H b ks ∧ Bok ks ∧ p.Ok ∧ RetV (.bl (costOf p ks).isSome) H Q
section
variable {P : Program} {w : World} {K : PySem.W.Frag} {mg : Str → Option Value} {base : Heap} {C CL : Addr}
-- plan_of: 0:manner, 1:kept, 2:path
theorem sc_plan_of : FnScope ["manner", "kept", "path"] ["manner", "kept", "path"] (defScope s_plan_of) := ⟨rfl, rfl, rfl, by decide +kernel, rfl, by decide +kernel, by decide +kernel⟩
theorem ok_plan_of {f : Addr} {fd : FuncData} (F : FnP K "plan_of" "plan_of" s_plan_of f fd) (m : mg "plan_of" = some (.ref f)) (T : Fx K mg) (C_Line : Mkc P w K mg base "Line" CL 6 ["self", "kept", "path"] (sp_Line_init K CL) [])  (C_Line_told_plan : Mth P w K mg base CL "told_plan" 1 ["self"] (sp_Line_told_plan K CL)) : Cal P w K mg base "plan_of" 8 ["manner", "kept", "path"] (sp_plan_of K) := by
  refine ⟨f, fd, ?_, m, F.kp, F.bindsN fun _ _ _ _ _ _ us hl => match us, hl with | [_, _, _], _ => rfl⟩
  refine F.ok sc_plan_of (fun vs H Q E h => by obtain ⟨kl, p, ks, rfl, hk, ko, hz, hp, k1, k2⟩ := h; rfl) (fun cdv A outer s H vs Q E hr h => ?_)
  obtain ⟨kl, p, ks, rfl, hk, ko, hz, hp, k1, k2⟩ := h
  have nd := sc_plan_of.nd
  have hu := hu_of hr
  obtain ⟨f_told_plan, d_told_plan, F_told_plan, c_told_plan, m_told_plan, b_told_plan⟩ := C_Line_told_plan.ex
  refine ⟨_, PSs.nox (pss_cons (ps_if (pt_cmpR op_eq (pv 0) pe_str (nomark _))
        (pss_one (ps_ret (pe_meth0 (pe_mkc C_Line (hr.mono (by decide)) (by rfl) (pa_cons (pv 1) (pa_cons (pv 2) pa_nil))) c_told_plan m_told_plan F_told_plan (hr.mono (by decide)) b_told_plan .nil pass0)))
        pss_nil) -- if manner == 'any':
      (pss_cons (ps_if (pt_cmpR op_eq (pv 0) pe_str (nomark _))
        (pss_one (ps_ret pe_never))
        pss_nil) -- if manner == 'matched':
      (pss_one (ps_ret pe_never)))), ?_⟩
  refine ⟨_, rfl, rfl, _, rfl, iteS ?_⟩
  refine ⟨_, rfl, _, rfl, fun x dx nx ndx hne => ?_⟩
  have e1 : Ex H (upd H dx (.own x)) := Ex.new ndx
  have nx1 : upd H dx (.own x) x = none := by rw [upd_ne hne.symm]; exact nx
  have e2 := ex_new (o := .ins CL dx []) e1 nx1
  refine ⟨x, kl, dx, H, ks, p, rfl, upd_same, nx, e2, e2 _ _ hk, ko, hz, hp, fun H2 e3 hL => ⟨rfl, ?_⟩⟩
  obtain ⟨bl, cd, cm, n, hL', hoff⟩ := hL
  obtain ⟨dx2, kvs, kvs2, g1, _⟩ := hL'.ex
  refine ⟨x, dx2, _, rfl, g1, rfl, x, p, ks, rfl, ⟨bl, cd, cm, n, hL', hoff⟩, ko, hp, fun hc => k1 hc H2 e3, fun a l H3 hc nl e4 hP => k2 a l H3 hc (fresh e3 nl) (e3.trans e4) hP⟩
-- tells_path: 0:manner, 1:kept, 2:path
theorem sc_tells_path : FnScope ["manner", "kept", "path"] ["manner", "kept", "path"] (defScope s_tells_path) := ⟨rfl, rfl, rfl, by decide +kernel, rfl, by decide +kernel, by decide +kernel⟩
theorem ok_tells_path {f : Addr} {fd : FuncData} (F : FnP K "tells_path" "tells_path" s_tells_path f fd) (m : mg "tells_path" = some (.ref f)) (T : Fx K mg)  (C_plan_of : Cal P w K mg base "plan_of" 8 ["manner", "kept", "path"] (sp_plan_of K)) : Cal P w K mg base "tells_path" 9 ["manner", "kept", "path"] (sp_tells_path K) := by
  refine ⟨f, fd, ?_, m, F.kp, F.bindsN fun _ _ _ _ _ _ us hl => match us, hl with | [_, _, _], _ => rfl⟩
  refine F.ok sc_tells_path (fun vs H Q E h => by obtain ⟨kl, p, ks, rfl, hk, ko, hz, hp, k⟩ := h; rfl) (fun cdv A outer s H vs Q E hr h => ?_)
  obtain ⟨kl, p, ks, rfl, hk, ko, hz, hp, k⟩ := h
  have nd := sc_tells_path.nd
  have hu := hu_of hr
  refine ⟨_, PSs.nox (pss_cons (ps_if (pt_cmpR op_eq (pv 0) pe_str (nomark _))
        (pss_one (ps_ret pe_never))
        pss_nil) -- if manner == 'turned':
      (pss_one (ps_ret (pe_cmpR op_notN (pe_cal C_plan_of (hr.mono (by decide)) (by rfl) (pa_cons (pv 0) (pa_cons (pv 1) (pa_cons (pv 2) pa_nil)))) pe_non (nomark _))))), ?_⟩
  refine ⟨_, rfl, rfl, _, rfl, iteN (by decide +kernel) ?_⟩
  refine ⟨_, rfl, _, rfl, _, rfl, kl, p, ks, rfl, hk, ko, hz, hp, fun hc H2 e2 => ⟨rfl, ?_⟩, fun a l H2 hc nl e2 _ => ⟨rfl, ?_⟩⟩
  · rw [hc] at k
    exact k H2 e2
  · rw [hc] at k
    exact k H2 e2
-- is_told: 0:book, 1:path
theorem sc_is_told : FnScope ["book", "path"] ["book", "path"] (defScope s_is_told) := ⟨rfl, rfl, rfl, by decide +kernel, rfl, by decide +kernel, by decide +kernel⟩
theorem ok_is_told {f : Addr} {fd : FuncData} (F : FnP K "is_told" "is_told" s_is_told f fd) (m : mg "is_told" = some (.ref f)) (T : Fx K mg) (B : ClB K C) (C_checked_path : Cal P w K mg base "checked_path" 4 ["book", "path"] (sp_checked_path K C)) (C_tells_path : Cal P w K mg base "tells_path" 9 ["manner", "kept", "path"] (sp_tells_path K)) : Cal P w K mg base "is_told" 10 ["book", "path"] (sp_is_told K C) := by
  refine ⟨f, fd, ?_, m, F.kp, F.bindsN fun _ _ _ _ _ _ us hl => match us, hl with | [_, _], _ => rfl⟩
  refine F.ok sc_is_told (fun vs H Q E h => by obtain ⟨b, p, ks, rfl, hb, hk, hp, k⟩ := h; rfl) (fun cdv A outer s H vs Q E hr h => ?_)
  obtain ⟨b, p, ks, rfl, hb, hk, hp, k⟩ := h
  have nd := sc_is_told.nd
  have hu := hu_of hr
  refine ⟨_, PSs.nox (pss_cons (ps_expr (pe_cal C_checked_path (hr.mono (by decide)) (by rfl) (pa_cons (pv 0) (pa_cons (pv 1) pa_nil)))) -- checked_path(book, path)
      (pss_one (ps_ret (pe_cal C_tells_path (hr.mono (by decide)) (by rfl) (pa_cons (pe_fld (pv 0) rfl) (pa_cons (pe_fld (pv 0) rfl) (pa_cons (pv 1) pa_nil))))))), ?_⟩
  refine ⟨_, rfl, _, rfl, b, ks, p, rfl, hb, hp, fun H1 e1 => ?_⟩
  obtain ⟨dx, l, h1, h2⟩ := hb.ex e1
  refine ⟨_, rfl, b, C, dx, _, _, rfl, h1, B.cls, B.n_manner, rfl, _, rfl, b, C, dx, _, _, rfl, h1, B.cls, B.n_paths, rfl, _, rfl, l, p, ks, rfl, h2, hk.ok, Nat.le_trans hk.le (by decide), hp, fun H2 e2 => k H2 (e1.trans e2)⟩
end
end K21
end

/-! K21W10 -/
section
set_option Elab.async false
set_option linter.all false
set_option maxRecDepth 100000
set_option maxHeartbeats 4000000
/-! the law's draws -/
namespace K21
open PySem PySem.Spec PyProof.Rows L2
open Evl (Ex ex_l ex_t)
/-- the law's state -/
def SAt (H : Hp) (st c : Addr) : Prop := ∃ (ms : List Int) (i s : Int) (b : Bool), H st = some (.lst [.ref c, .int i, .int s, .bl b]) ∧ H c = some (.lst (ms.map V.int)) ∧ ms.length ≤ 63
/-- all but the state stays -/
def Fs (st : Addr) (H H' : Hp) : Prop := ∀ a o, H a = some o → a ≠ st → H' a = some o
theorem Fs.of {st : Addr} {H H' : Hp} (e : Ex H H') : Fs st H H' := fun a o h _ => e a o h
theorem Fs.trans {st : Addr} {H H1 H2 : Hp} (a : Fs st H H1) (b : Fs st H1 H2) : Fs st H H2 := fun x o h n => b x o (a x o h n) n
theorem Fs.st {st : Addr} {H : Hp} {o : HO} : Fs st H (upd H st o) := fun a u h n => at_ne h n
theorem Fs.ex {st : Addr} {H0 H H' : Hp} (f : Fs st H H') (e : Ex H0 H) (h1 : H0 st = none) : Ex H0 H' := fun a o h => f a o (e a o h) (ne_of_none h h1)
theorem SAt.ex {H H' : Hp} {st c : Addr} (h : SAt H st c) (e : Ex H H') : SAt H' st c := by
  obtain ⟨ms, i, s, b, h1, h2, h3⟩ := h
  exact ⟨ms, i, s, b, e _ _ h1, e _ _ h2, h3⟩
theorem SAt.up {H : Hp} {st c : Addr} {ms : List Int} {i s : Int} {b : Bool} {xs : List V} (h1 : H st = some (.lst xs)) (h2 : H c = some (.lst (ms.map V.int))) (h3 : ms.length ≤ 63) (n : c ≠ st) : SAt (upd H st (.lst [.ref c, .int i, .int s, .bl b])) st c :=
  ⟨ms, i, s, b, upd_same, at_ne h2 n, h3⟩
theorem cell_ne {H : Hp} {st c : Addr} {ms : List Int} {r : List V} (h1 : H st = some (.lst (.ref c :: r))) (h2 : H c = some (.lst (ms.map V.int))) : c ≠ st := fun e => by
  rw [e, h1] at h2
  cases ms with
  | nil => cases h2
  | cons x r => cases h2
def sp_law_fresh (K : PySem.W.Frag) : Sp := fun vs H Q _ => ∃ (a : Addr) (ns : List Int), vs = [.ref a] ∧ SqL K H a (ns.map V.int) ∧ ns.length ≤ 63 ∧ ∀ st c H', H st = none → H c = none → Ex H H' → SAt H' st c → Q (.ref st) H'
def sp_law_fill (K : PySem.W.Frag) : Sp := fun vs H Q _ => ∃ st c : Addr, vs = [.ref st] ∧ SAt H st c ∧ ∀ H', Fs st H H' → SAt H' st c → Q .non H'
def sp_law_take (K : PySem.W.Frag) : Sp := fun vs H Q _ => ∃ (st c : Addr) (n : Nat), vs = [.ref st, .int (n : Nat)] ∧ 1 ≤ n ∧ n ≤ 1000 ∧ SAt H st c ∧ ∀ H' (d : Nat), Fs st H H' → SAt H' st c → d < n → Q (.int (d : Nat)) H'
def sp_law_one (K : PySem.W.Frag) : Sp := fun vs H Q _ => ∃ (st c l : Addr) (zs : List V), vs = [.ref st, .ref l] ∧ SAt H st c ∧ H l = some (.lst zs) ∧ l ≠ st ∧ zs ≠ [] ∧ zs.length ≤ 1000 ∧ ∀ H' z, Fs st H H' → SAt H' st c → z ∈ zs → Q z H'
section
variable {P : Program} {w : World} {K : PySem.W.Frag} {mg : Str → Option Value} {base : Heap} {C CL : Addr}
-- _law_fresh: 0:_law_script
theorem sc_law_fresh : FnScope ["_law_script"] ["_law_script"] (defScope s_law_fresh) := ⟨rfl, rfl, rfl, by decide +kernel, rfl, by decide +kernel, by decide +kernel⟩
theorem ok_law_fresh {f : Addr} {fd : FuncData} (F : FnP K "_law_fresh" "_law_fresh" s_law_fresh f fd) (m : mg "_law_fresh" = some (.ref f)) (T : Fx K mg)   : Cal P w K mg base "_law_fresh" 1 ["_law_script"] (sp_law_fresh K) := by
  refine ⟨f, fd, ?_, m, F.kp, F.bindsN fun _ _ _ _ _ _ us hl => match us, hl with | [_], _ => rfl⟩
  refine F.ok sc_law_fresh (fun vs H Q E h => by obtain ⟨a, ns, rfl, ha, hz, k⟩ := h; rfl) (fun cdv A outer s H vs Q E hr h => ?_)
  obtain ⟨a, ns, rfl, ha, hz, k⟩ := h
  have nd := sc_law_fresh.nd
  have hu := hu_of hr
  refine ⟨_, PSs.nox (pss_one (ps_ret (pe_lst (pa_cons (pe_slice sl_list (pv 0) po_none (po_some pe_int)) (pa_cons pe_int (pa_cons pe_int (pa_cons pe_bl pa_nil))))))), ?_⟩
  refine ⟨_, rfl, _, rfl, a, _, rfl, ha, fun c nc => ⟨szk, fun st nst => ?_⟩⟩
  refine k st c _ (fresh (Ex.new nc) nst) nc (ex_new (Ex.new nc) nst) ⟨cutL ns none (some 63), 0, 0, false, upd_same, ?_, Nat.le_trans (cutL_len _ _ _) hz⟩
  refine (at_new upd_same nst).trans ?_
  rw [cutV_map]
-- _law_fill: 0:_law_state, 1:_law_cells, 2:_law_nth, 3:_law_seed, 4:_law_k, 5:_law_prime, 6:_law_far
theorem sc_law_fill : FnScope ["_law_state", "_law_cells", "_law_nth", "_law_seed", "_law_k", "_law_prime", "_law_far"] ["_law_state"] (defScope s_law_fill) := ⟨rfl, rfl, rfl, by decide +kernel, rfl, by decide +kernel, by decide +kernel⟩
theorem ok_law_fill {f : Addr} {fd : FuncData} (F : FnP K "_law_fill" "_law_fill" s_law_fill f fd) (m : mg "_law_fill" = some (.ref f)) (T : Fx K mg)   : Cal P w K mg base "_law_fill" 1 ["_law_state"] (sp_law_fill K) := by
  refine ⟨f, fd, ?_, m, F.kp, F.bindsN fun _ _ _ _ _ _ us hl => match us, hl with | [_], _ => rfl⟩
  refine F.ok sc_law_fill (fun vs H Q E h => by obtain ⟨st, c, rfl, hS, k⟩ := h; rfl) (fun cdv A outer s H vs Q E hr h => ?_)
  obtain ⟨st, c, rfl, hS, k⟩ := h
  have nd := sc_law_fill.nd
  have hu := hu_of hr
  refine ⟨_, PSs.nox (pss_cons (ps_par (i := 1) (j := 2) (by rfl) nd rfl rfl (by decide) rfl rfl (pa_cons (pe_ix ix_list (pv 0) pe_int (fun _ _ => rfl)) (pa_cons (pe_ix ix_list (pv 0) pe_int (fun _ _ => rfl)) pa_nil)) (by rfl)) -- _law_cells, _law_nth = (_law_state[0], _law_state[1])
      (pss_cons (ps_set (i := 3) nd rfl (Or.inl rfl) (pe_op op_add (pe_op op_mul pe_int (pv 2)) pe_int)) -- _law_seed = 31 * _law_nth + 7
      (Evl.pss_cut (ps_if (pt_cmpR op_gt (pe_callB call_len_seq (by rfl) T.n_len (by decide +kernel) (pa_cons (pv 1) pa_nil)) pe_int (nomark _))
        (pss_one (ps_set (i := 3) nd rfl (Or.inl rfl) (pe_op op_add (pe_op op_mul pe_int (pe_op op_fdivN (pv 2) (pe_callB call_len_seq (by rfl) T.n_len (by decide +kernel) (pa_cons (pv 1) pa_nil)))) (pe_ix ix_list (pv 1) (pe_op op_modN (pe_callTy call_int1 (by rfl) T.n_int (by decide +kernel) (pa_cons (pv 2) pa_nil)) (pe_callB call_len_seq (by rfl) T.n_len (by decide +kernel) (pa_cons (pv 1) pa_nil))) (fun _ _ => rfl)))))
        pss_nil) -- if len(_law_cells) > 0:
      (pss_cons (ps_asg (pe_op op_add (pv 2) pe_int) (pg_sub (pv 0) pe_int set_list)) -- _law_state[1] = _law_nth + 1
      (Evl.pss_cut (ps_asg (pe_or (pe_cmpR op_ge (pv 2) (pe_callB call_len_seq (by rfl) T.n_len (by decide +kernel) (pa_cons (pv 1) pa_nil)) (nomark _)) (pe_one (pe_cmpR op_lt (pv 3) (pe_op op_pow pe_int pe_int) (nomark _)))) (pg_sub (pv 0) pe_int set_list)) -- _law_state[3] = _law_nth >= len(_law_cells) or _law_seed < 10 ** 18
      (Evl.pss_cut (ps_asg (pe_op op_sub (pv 3) (pe_op op_pow pe_int pe_int)) (pg_sub (pv 0) pe_int set_list)) -- _law_state[2] = _law_seed - 10 ** 18
      (pss_one (ps_if (pt_val (pe_ix ix_list (pv 0) pe_int (fun _ _ => rfl)))
        (Evl.pss_cut (ps_asg pe_int (pg_sub (pv 0) pe_int set_list)) -- _law_state[2] = 0
        (pss_one (ps_for PassesOwn.never rfl (pi_enumT (by rfl) T.n_enumerate (pa_cons (pe_tup (pa_cons pe_int (pa_cons pe_int (pa_cons pe_int (pa_cons pe_int (pa_cons pe_int pa_nil)))))) pa_nil)) (pg_tup rfl (pgs_cons (pg_name (i := 4) nd rfl (Or.inl rfl)) (pgs_cons (pg_name (i := 5) nd rfl (Or.inl rfl)) pgs_nil)))
          (pss_cons (ps_set (i := 6) nd rfl (Or.inl rfl) (pe_op op_modN (pe_callTy call_int1 (by rfl) T.n_int (by decide +kernel) (pa_cons (pe_op op_mul (pe_op op_add (pe_op op_add (pv 3) (pe_op op_mul (pe_op op_mul pe_int (pv 4)) (pv 4))) (pe_op op_mul pe_int (pv 4))) (pe_op op_add pe_int (pe_op op_mul pe_int (pv 4)))) pa_nil)) (pv 5))) -- _law_far = int((_law_seed + 10007 * _law_k * _law_k + 101 * _law_k) * (48271 + 2 * _law_k)) % _law_prime
          (pss_one (ps_asg (pe_op op_add (pe_op op_mul (pe_ix ix_list (pv 0) pe_int (fun _ _ => rfl)) (pv 5)) (pe_op op_modN (pe_callTy call_int1 (by rfl) T.n_int (by decide +kernel) (pa_cons (pe_op op_pow (pv 6) pe_int) pa_nil)) (pv 5))) (pg_sub (pv 0) pe_int set_list)))))))
        pss_nil)))))))), ?_⟩
  obtain ⟨ms, i, s0, b, h1, h2, h3⟩ := hS
  have cn := cell_ne h1 h2
  refine ⟨_, rfl, _, _, 0, _, rfl, rfl, .of h1, rfl, _, rfl, _, _, 1, _, rfl, rfl, .of h1, rfl, _, _, rfl, ?_⟩
  refine ⟨_, rfl, _, _, rfl, rfl, .inl ⟨by decide, by decide⟩, _, _, rfl, rfl, ?_⟩
  refine ⟨fun σ' H' => (∃ z : Int, σ' = [some (.ref st), some (.ref c), some (.int i), some (.int z), none, none, none]) ∧ H' = H, ?_, ?_⟩
  · refine ⟨_, rfl, _, _, rfl, .inl (.of h2), _, _, rfl, rfl, _, rfl, ?_⟩
    rw [List.length_map]
    cases hms : ms with
    | nil => exact iteF ⟨⟨_, rfl⟩, rfl⟩
    | cons m0 mr =>
      rw [← hms]
      have hl : 0 < ms.length := by rw [hms]; exact Nat.succ_pos _
      rw [decide_eq_true (show (0 : Int) < (ms.length : Nat) by omega)]
      have g0 := Int.fmod_nonneg_of_pos i (show (0 : Int) < (ms.length : Nat) by omega)
      have g1 := Int.fmod_lt_of_pos i (show (0 : Int) < (ms.length : Nat) by omega)
      obtain ⟨d, hd⟩ := Int.eq_ofNat_of_zero_le g0
      have hdl : d < ms.length := by omega
      refine iteT ⟨_, rfl, _, rfl, _, _, rfl, .inl (.of h2), _, _, rfl, rfl, ⟨by rw [List.length_map]; omega, by rw [List.length_map]; omega⟩, _, _, rfl, rfl, .inl ⟨by decide, by decide⟩,
        _, rfl, _, rfl, .inl ⟨_, rfl, _, rfl, _, _, rfl, .inl (.of h2), _, _, rfl, rfl, by rw [List.length_map]; omega, _, _, _, .int ms[d], rfl, rfl, .of h2, ?_, ?_⟩⟩
      · rw [List.length_map, hd]
        exact atI_nat (by rw [List.getElem?_map, List.getElem?_eq_getElem hdl]; rfl)
      · exact ⟨_, _, rfl, rfl, ⟨_, rfl⟩, rfl⟩
  · rintro σ' H' ⟨⟨z, rfl⟩, rfl⟩
    refine ⟨_, rfl, _, _, rfl, rfl, _, rfl, _, _, _, _, rfl, rfl, h1, rfl, ?_⟩
    have f1 : Fs st H' (upd H' st (.lst [.ref c, .int (i + 1), .int s0, .bl b])) := .st
    have g1 : upd H' st (.lst [.ref c, .int (i + 1), .int s0, .bl b]) st = some (.lst [.ref c, .int (i + 1), .int s0, .bl b]) := upd_same
    refine ⟨fun σ' H2 => σ' = [some (.ref st), some (.ref c), some (.int i), some (.int z), none, none, none] ∧ Fs st H' H2 ∧ ∃ i' s' b', H2 st = some (.lst [.ref c, .int i', .int s', .bl b']), ?_, ?_⟩
    · refine ⟨_, rfl, _, rfl, _, _, rfl, .inl (.of (at_ne h2 cn)), _, _, rfl, rfl, _, rfl, ite2 (fun _ => ?_) fun _ => ?_⟩
      · exact ⟨_, rfl, _, _, _, _, rfl, rfl, g1, rfl, rfl, f1.trans .st, _, _, _, upd_same⟩
      · exact ⟨_, rfl, _, _, rfl, rfl, ⟨by decide, by decide, by decide⟩, _, _, rfl, rfl, _, rfl, _, _, _, _, rfl, rfl, g1, rfl, rfl, f1.trans .st, _, _, _, upd_same⟩
    · rintro σ' H2 ⟨rfl, f2, i2, s2, b2, g2⟩
      refine ⟨fun σ' H2 => σ' = [some (.ref st), some (.ref c), some (.int i), some (.int z), none, none, none] ∧ Fs st H' H2 ∧ ∃ i' s' b', H2 st = some (.lst [.ref c, .int i', .int s', .bl b']),
        ⟨_, rfl, _, _, rfl, rfl, ⟨by decide, by decide, by decide⟩, _, _, rfl, rfl, _, rfl, _, _, _, _, rfl, rfl, g2, rfl, rfl, f2.trans .st, _, _, _, upd_same⟩, ?_⟩
      rintro σ' H3 ⟨rfl, f3, i3, s3, b3, g3⟩
      refine ⟨_, rfl, _, _, 3, _, rfl, rfl, .of g3, rfl, _, rfl, ?_⟩
      have fin : ∀ {H3 : Hp} {i3 s3 : Int} {b3 : Bool}, Fs st H' H3 → H3 st = some (.lst [.ref c, .int i3, .int s3, .bl b3]) → Q .non H3 := fun {H3 i3 s3 b3} f g => k H3 f ⟨ms, i3, s3, b3, g, f c _ h2 cn, h3⟩
      cases b3 with
      | false => exact iteF (fin f3 g3)
      | true =>
        refine iteT ⟨fun σ' H2 => σ' = [some (.ref st), some (.ref c), some (.int i), some (.int z), none, none, none] ∧ Fs st H' H2 ∧ ∃ i' s' b', H2 st = some (.lst [.ref c, .int i', .int s', .bl b']),
          ⟨_, rfl, _, _, _, _, rfl, rfl, g3, rfl, rfl, f3.trans .st, _, _, _, upd_same⟩, ?_⟩
        rintro σ' H3' ⟨rfl, f4, i4, s4, b4, g4⟩
        refine ⟨szk, fun tp ntp => ⟨tp, _, rfl, .of upd_same, ?_⟩⟩
        have tn : tp ≠ st := fun e => by rw [e, g4] at ntp; cases ntp
        refine for_it (walk_enumT (xs := [2147483647, 2147483629, 2147483587, 2147483579, 2147483563].map V.int)) (fun j σ H3 => (∃ x1 x2 x3, σ = [some (.ref st), some (.ref c), some (.int i), some (.int z), x1, x2, x3]) ∧ Fs st H' H3 ∧ (∃ i' s' b', H3 st = some (.lst [.ref c, .int i', .int s', .bl b'])) ∧ H3 tp = some (.tup ([2147483647, 2147483629, 2147483587, 2147483579, 2147483563].map V.int)))
          ⟨⟨_, _, _, rfl⟩, f4.trans (.of (Ex.new ntp)), ⟨_, _, _, at_new g4 ntp⟩, upd_same⟩ (fun j σ H3 _ pv => .of pv.2.2.2) ?_ ?_
        · rintro j v σ H3 H4 hj ⟨⟨x1, x2, x3, rfl⟩, f5, ⟨i3, s3, b3, g5⟩, ht⟩ ⟨t, y, rfl, nt, rfl, hy⟩
          have hj : j < 5 := hj
          obtain ⟨q, hq, hy2⟩ : ∃ q : Int, (0 < q ∧ q < 2 ^ 31) ∧ y = .int q := by
            rw [List.getElem?_map] at hy
            cases hq : ([2147483647, 2147483629, 2147483587, 2147483579, 2147483563] : List Int)[j]? with
            | none => rw [hq] at hy; cases hy
            | some q =>
              rw [hq] at hy
              cases hy
              refine ⟨q, ?_, rfl⟩
              have := List.mem_of_getElem? hq
              simp only [List.mem_cons, List.not_mem_nil, or_false] at this
              omega
          subst hy2
          refine ⟨t, _, rfl, .of upd_same, rfl, _, _, rfl, _, _, rfl, rfl, ?_⟩
          refine ⟨_, rfl, _, rfl, _, _, rfl, rfl, .inl ⟨by decide, by decide⟩, _, rfl, _, _, rfl, rfl, .inr ⟨by omega, by omega⟩, _, _, rfl, rfl, _, rfl, _, _, rfl, rfl, .inl ⟨by decide, by decide⟩, _, _, rfl, rfl,
            _, rfl, _, _, rfl, rfl, .inl ⟨by decide, by decide⟩, _, _, rfl, rfl, _, _, rfl, rfl, .inr ⟨by omega, by omega⟩, .inl ⟨_, rfl, _, rfl, _, _, rfl, rfl, by omega, ?_⟩⟩
          generalize (z + 10007 * (j : Int) * (j : Int) + 101 * (j : Int)) * (48271 + 2 * (j : Int)) = big
          have q0 := Int.fmod_nonneg_of_pos big hq.1
          have q1 := Int.fmod_lt_of_pos big hq.1
          have g6 := at_new (o := .tup [.int (j : Nat), .int q]) g5 nt
          refine ⟨_, rfl, _, _, 2, _, rfl, rfl, .of g6, rfl, _, rfl, _, _, rfl, rfl, .inr ⟨by omega, by omega⟩, _, rfl, _, _, rfl, rfl, ⟨by decide, by decide, by omega⟩, .inl ⟨_, rfl, _, rfl, _, _, rfl, rfl, by omega, _, _, rfl, rfl, _, rfl, _, _, _, _, rfl, rfl, g6, rfl, ?_⟩⟩
          exact ⟨⟨_, _, _, rfl⟩, (f5.trans (.of (Ex.new nt))).trans .st, ⟨_, _, _, upd_same⟩, at_ne (at_new ht nt) tn⟩
        · rintro σ H3 ⟨_, f5, ⟨i3, s3, b3, g5⟩, _⟩
          exact fin f5 g5
end
end K21
end

/-! K21W11 -/
section
set_option Elab.async false
set_option linter.all false
set_option maxRecDepth 100000
set_option maxHeartbeats 4000000
/-! the law's draws: a number, one of many -/
namespace K21
open PySem PySem.Spec PyProof.Rows L2
open Evl (Ex ex_l ex_t)
section
variable {P : Program} {w : World} {K : PySem.W.Frag} {mg : Str → Option Value} {base : Heap} {C CL : Addr}
-- _law_take: 0:_law_state, 1:_law_many, 2:_law_laps, 3:_law_digit
theorem sc_law_take : FnScope ["_law_state", "_law_many", "_law_laps", "_law_digit"] ["_law_state", "_law_many"] (defScope s_law_take) := ⟨rfl, rfl, rfl, by decide +kernel, rfl, by decide +kernel, by decide +kernel⟩
theorem ok_law_take {f : Addr} {fd : FuncData} (F : FnP K "_law_take" "_law_take" s_law_take f fd) (m : mg "_law_take" = some (.ref f)) (T : Fx K mg)  (C_law_fill : Cal P w K mg base "_law_fill" 1 ["_law_state"] (sp_law_fill K)) : Cal P w K mg base "_law_take" 2 ["_law_state", "_law_many"] (sp_law_take K) := by
  refine ⟨f, fd, ?_, m, F.kp, F.bindsN fun _ _ _ _ _ _ us hl => match us, hl with | [_, _], _ => rfl⟩
  refine F.ok sc_law_take (fun vs H Q E h => by obtain ⟨st, c, n, rfl, h1, h2, hS, k⟩ := h; rfl) (fun cdv A outer s H vs Q E hr h => ?_)
  obtain ⟨st, c, n, rfl, h1, h2, hS, k⟩ := h
  have nd := sc_law_take.nd
  have hu := hu_of hr
  refine ⟨_, PSs.nox (pss_cons (ps_set (i := 2) nd rfl (Or.inl rfl) pe_int) -- _law_laps = 0
      (pss_cons (ps_while PassesOwn.never (pt_mid (PW.pt (pw_and (pt_cmpR op_lt (pv 2) pe_int (nomark _)) (pw_and1 (PW.pt (pw_or (pt_cmpR op_eq (pe_ix ix_list (pv 0) pe_int (fun _ _ => rfl)) pe_int (nomark _)) (pw_or1 (pt_mid (PW.pt (pw_and (pt_val (pe_ix ix_list (pv 0) pe_int (fun _ _ => rfl))) (pw_and1 (pt_cmpR op_lt (pe_ix ix_list (pv 0) pe_int (fun _ _ => rfl)) (pe_op op_mul (pv 1) pe_int) (nomark _)))))))))))))
        (pss_cons (ps_expr (pe_cal C_law_fill (hr.mono (by decide)) (by rfl) (pa_cons (pv 0) pa_nil))) -- _law_fill(_law_state)
        (pss_cons (ps_aug (i := 2) nd rfl (Or.inl rfl) pe_int ip_add) -- _law_laps += 1
        (pss_one (ps_if (pt_mid (PW.pt (pw_and (pt_val (pe_ix ix_list (pv 0) pe_int (fun _ _ => rfl))) (pw_and1 (pt_cmpR op_lt (pe_ix ix_list (pv 0) pe_int (fun _ _ => rfl)) (pe_op op_mul (pv 1) pe_int) (nomark _))))))
          (pss_one (ps_asg (pe_op op_add (pe_ix ix_list (pv 0) pe_int (fun _ _ => rfl)) (pe_op op_mul (pe_op op_mul (pv 1) pe_int) (pe_op op_add pe_int (pe_op op_modN (pe_callTy call_int1 (by rfl) T.n_int (by decide +kernel) (pa_cons (pe_ix ix_list (pv 0) pe_int (fun _ _ => rfl)) pa_nil)) pe_int)))) (pg_sub (pv 0) pe_int set_list)))
          pss_nil))))) -- while _law_laps < 64 and (_law_state[2] == 0 or (_law_state[3] and _law_state[2] < _law_many * 4096)):
      (pss_cons (ps_set (i := 3) nd rfl (Or.inl rfl) (pe_op op_modN (pe_callTy call_int1 (by rfl) T.n_int (by decide +kernel) (pa_cons (pe_ix ix_list (pv 0) pe_int (fun _ _ => rfl)) pa_nil)) (pv 1))) -- _law_digit = int(_law_state[2]) % _law_many
      (pss_cons (ps_asg (pe_op op_fdivN (pe_ix ix_list (pv 0) pe_int (fun _ _ => rfl)) (pv 1)) (pg_sub (pv 0) pe_int set_list)) -- _law_state[2] = _law_state[2] // _law_many
      (pss_one (ps_ret (pv 3))))))), ?_⟩
  refine ⟨fun m σ H' => ∃ laps : Nat, m = 64 - laps ∧ laps ≤ 64 ∧ σ = [some (.ref st), some (.int (n : Nat)), some (.int (laps : Nat)), none] ∧ Fs st H H' ∧ SAt H' st c,
    ⟨_, 0, rfl, Nat.zero_le _, rfl, .of (Ex.refl _), hS⟩, ?_⟩
  rintro m σ H' ⟨laps, rfl, hlp, rfl, f1, hS1⟩
  obtain ⟨ms, i, s0, b, g1, g2, g3⟩ := hS1
  have cn := cell_ne g1 g2
  refine ⟨fun b H1 => (b = true → laps < 64) ∧ H1 = H', ?_, ?_⟩
  · refine ⟨_, rfl, _, _, rfl, rfl, _, rfl, ite2 (fun hlt => ?_) (fun _ => ⟨fun h => (nomatch h), rfl⟩)⟩
    have lt : laps < 64 := by
      have := of_decide_eq_true hlt
      omega
    refine ⟨_, rfl, _, _, 2, _, rfl, rfl, .of g1, rfl, rfl, _, rfl, ite2 (fun _ => ⟨fun _ => lt, rfl⟩) fun _ => ?_⟩
    refine ⟨fun b H1 => H1 = H', ⟨_, rfl, _, _, 3, _, rfl, rfl, .of g1, rfl, _, rfl, ite2 (fun _ => ?_) fun _ => rfl⟩, fun b H1 e => ⟨fun _ => lt, e⟩⟩
    exact ⟨_, rfl, _, _, 2, _, rfl, rfl, .of g1, rfl, _, rfl, _, _, rfl, rfl, .inr ⟨by decide, by decide⟩, _, _, rfl, rfl, _, rfl, rfl⟩
  · rintro bb H1 ⟨hlt, rfl⟩
    cases bb with
    | true =>
      have lt := hlt rfl
      refine iteT ⟨_, fun _ _ h => h, ?_⟩
      refine ⟨_, rfl, st, c, rfl, ⟨ms, i, s0, b, g1, g2, g3⟩, fun H2 f2 hS2 => ⟨_, rfl, _, _, rfl, rfl, ?_⟩⟩
      obtain ⟨ms', i', s', b', r1, r2, r3⟩ := hS2
      have cn' := cell_ne r1 r2
      refine ⟨fun b H1 => H1 = H2, ⟨_, rfl, _, _, 3, _, rfl, rfl, .of r1, rfl, _, rfl, ite2 (fun _ => ?_) fun _ => rfl⟩, ?_⟩
      · exact ⟨_, rfl, _, _, 2, _, rfl, rfl, .of r1, rfl, _, rfl, _, _, rfl, rfl, .inr ⟨by decide, by decide⟩, _, _, rfl, rfl, _, rfl, rfl⟩
      · rintro bb H3 rfl
        cases bb with
        | false => exact iteF ⟨64 - (laps + 1), by omega, laps + 1, rfl, lt, rfl, f1.trans f2, ms', i', s', b', r1, r2, r3⟩
        | true =>
          refine iteT ⟨_, rfl, _, _, 2, _, rfl, rfl, .of r1, rfl, _, rfl, _, _, rfl, rfl, .inr ⟨by decide, by decide⟩, _, rfl, _, _, 2, _, rfl, rfl, .of r1, rfl, .inl ⟨_, rfl, _, _, rfl, rfl, (by show (4093 : Int) ≠ 0; decide), _, _, rfl, rfl, _, _, rfl, rfl, .inl ⟨by omega, by omega⟩, _, _, rfl, rfl,
            _, rfl, _, _, _, _, rfl, rfl, r1, rfl, ?_⟩⟩
          exact ⟨64 - (laps + 1), by omega, laps + 1, rfl, lt, rfl, (f1.trans f2).trans .st, .up r1 r2 r3 cn'⟩
    | false =>
      have np : (0 : Int) < (n : Nat) := by omega
      have q0 := Int.fmod_nonneg_of_pos s0 np
      have q1 := Int.fmod_lt_of_pos s0 np
      obtain ⟨d, hd⟩ := Int.eq_ofNat_of_zero_le q0
      refine iteF ⟨_, rfl, _, _, 2, _, rfl, rfl, .of g1, rfl, .inl ⟨_, rfl, _, rfl, _, _, rfl, rfl, by omega, ?_⟩⟩
      refine ⟨_, rfl, _, _, 2, _, rfl, rfl, .of g1, rfl, _, rfl, _, _, rfl, rfl, ⟨by omega, by omega⟩, _, rfl, _, _, _, _, rfl, rfl, g1, rfl, ?_⟩
      have kk := k _ d (f1.trans .st) (.up (i := i) (s := s0.fdiv (n : Nat)) (b := b) g1 g2 g3 cn) (by omega)
      rw [← hd] at kk
      exact ⟨_, rfl, kk⟩
-- _law_one: 0:_law_state, 1:_law_things
theorem sc_law_one : FnScope ["_law_state", "_law_things"] ["_law_state", "_law_things"] (defScope s_law_one) := ⟨rfl, rfl, rfl, by decide +kernel, rfl, by decide +kernel, by decide +kernel⟩
theorem ok_law_one {f : Addr} {fd : FuncData} (F : FnP K "_law_one" "_law_one" s_law_one f fd) (m : mg "_law_one" = some (.ref f)) (T : Fx K mg)  (C_law_take : Cal P w K mg base "_law_take" 2 ["_law_state", "_law_many"] (sp_law_take K)) : Cal P w K mg base "_law_one" 3 ["_law_state", "_law_things"] (sp_law_one K) := by
  refine ⟨f, fd, ?_, m, F.kp, F.bindsN fun _ _ _ _ _ _ us hl => match us, hl with | [_, _], _ => rfl⟩
  refine F.ok sc_law_one (fun vs H Q E h => by obtain ⟨st, c, l, zs, rfl, hS, hl, hne, hz0, hz, k⟩ := h; rfl) (fun cdv A outer s H vs Q E hr h => ?_)
  obtain ⟨st, c, l, zs, rfl, hS, hl, hne, hz0, hz, k⟩ := h
  have nd := sc_law_one.nd
  have hu := hu_of hr
  refine ⟨_, PSs.nox (pss_one (ps_ret (pe_ix ix_list (pv 1) (pe_cal C_law_take (hr.mono (by decide)) (by rfl) (pa_cons (pv 0) (pa_cons (pe_callB call_len_seq (by rfl) T.n_len (by decide +kernel) (pa_cons (pv 1) pa_nil)) pa_nil))) (fun _ _ => rfl)))), ?_⟩
  refine ⟨_, rfl, _, rfl, _, rfl, _, _, rfl, .inl (.of hl), st, c, zs.length, rfl, List.length_pos_iff.mpr hz0, hz, hS, fun H' d f1 hS1 hd => ?_⟩
  exact ⟨_, _, _, zs[d], rfl, rfl, .of (f1 _ _ hl hne), atI_nat (List.getElem?_eq_getElem hd), k H' _ f1 hS1 (List.getElem_mem hd)⟩
end
end K21
end

/-! K21W12 -/
section
set_option Elab.async false
set_option linter.all false
set_option maxRecDepth 100000
set_option maxHeartbeats 4000000
/-! the law reads a path -/
namespace K21
open PySem PySem.Spec PyProof.Rows L2
open Evl (Ex ex_l ex_t)
def letT : Str := "abcdefghijklmnopqrstuvwxyzABCDEFGHIJKLMNOPQRSTUVWXYZ"
theorem let_list : letT.cps.toList = [97, 98, 99, 100, 101, 102, 103, 104, 105, 106, 107, 108, 109, 110, 111, 112, 113, 114, 115, 116, 117, 118, 119, 120, 121, 122, 65, 66, 67, 68, 69, 70, 71, 72, 73, 74, 75, 76, 77, 78, 79, 80, 81, 82, 83, 84, 85, 86, 87, 88, 89, 90] := by decide +kernel
theorem in_let {c : Nat} (h : 97 ≤ c ∧ c ≤ 122) : decide (c ∈ letT.cps.toList) = true := by
  rw [let_list]
  exact decide_eq_true (by simp only [List.mem_cons, List.not_mem_nil, or_false]; omega)
theorem flat_le {ms : List (List Nat)} (h : ∀ m ∈ ms, m.length ≤ 10) : ms.flatten.length ≤ ms.length * 10 := by
  induction ms with
  | nil => exact Nat.le_refl _
  | cons m ms ih =>
    have h1 := h m List.mem_cons_self
    have h2 := ih fun x hx => h x (List.mem_cons_of_mem _ hx)
    rw [List.flatten_cons, List.length_append, List.length_cons]
    omega
theorem tup2_no {K : PySem.W.Frag} {t : String} (h : kitB t "list" = some false) (h2 : kitB t "tuple" = some false) : PySem.W.kitAny K (.type t) [.type "list", .type "tuple"] = some false :=
  kitAny_cons (kit_ty h) (fun _ => kitAny_cons (kit_ty h2) (fun _ => rfl) fun z => nomatch z) fun z => nomatch z
def sp_law_read (K : PySem.W.Frag) : Sp := sp_parsed K
/-- two truths, two texts -/
def sp_law_same (K : PySem.W.Frag) : Sp := fun vs H Q _ => (∃ a b : Bool, vs = [.bl a, .bl b] ∧ ∀ H', Ex H H' → Q (.bl (decide (a = b))) H') ∨ ∃ a b : Str, vs = [.str a, .str b] ∧ ∀ H', Ex H H' → Q (.bl (decide (V.str a = V.str b))) H'
section
variable {P : Program} {w : World} {K : PySem.W.Frag} {mg : Str → Option Value} {base : Heap} {C CL : Addr}
-- _law_read: 0:_law_x, 1:_law_letters, 2:_law_digits, 3:_law_sign, 4:_law_is_up, 5:_law_is_plain, 6:_law_d
theorem sc_law_read : FnScope ["_law_x", "_law_letters", "_law_digits", "_law_sign", "_law_is_up", "_law_is_plain", "_law_d"] ["_law_x"] (defScope s_law_read) := ⟨rfl, rfl, rfl, by decide +kernel, rfl, by decide +kernel, by decide +kernel⟩
theorem ok_law_read {f : Addr} {fd : FuncData} (F : FnP K "_law_read" "_law_read" s_law_read f fd) (m : mg "_law_read" = some (.ref f)) (T : Fx K mg)   : Cal P w K mg base "_law_read" 1 ["_law_x"] (sp_law_read K) := by
  refine ⟨f, fd, ?_, m, F.kp, F.bindsN fun _ _ _ _ _ _ us hl => match us, hl with | [_], _ => rfl⟩
  refine F.ok sc_law_read (fun vs H Q E h => by obtain ⟨p, rfl, hp, k⟩ := h; rfl) (fun cdv A outer s H vs Q E hr h => ?_)
  obtain ⟨p, rfl, hp, k⟩ := h
  have nd := sc_law_read.nd
  have hu := hu_of hr
  refine ⟨_, PSs.nox (pss_cons (ps_if (pt_not (pt_val (pe_callB call_isi (by rfl) T.n_isinstance (by decide +kernel) (pa_cons (pv 0) (pa_cons (pe_tyn "str" (by rfl) T.n_str (by decide +kernel)) pa_nil)))))
        (pss_one (ps_ret pe_non))
        pss_nil) -- if not isinstance(_law_x, str):
      (pss_cons (ps_par (i := 1) (j := 2) (by rfl) nd rfl rfl (by decide) rfl rfl (pa_cons (pe_lst pa_nil) (pa_cons (pe_lst (pa_cons pe_str pa_nil)) pa_nil)) (by rfl)) -- _law_letters, _law_digits = ([], [''])
      (pss_cons (ps_for PassesOwn.never rfl (pi_str (pv 0)) (pg_name (i := 3) nd rfl (Or.inl rfl))
        (pss_one (ps_if (pt_cmpR op_in_sign (pv 3) pe_str rfl)
          (pss_one (ps_asg (pe_op op_add_str (pe_ix ix_list (pv 2) (pe_un un_neg pe_int) (fun _ _ => rfl)) (pv 3)) (pg_sub (pv 2) (pe_un un_neg pe_int) set_list)))
          (pss_one (ps_if (pt_cmpR op_in_sign (pv 3) pe_str rfl)
            (pss_cons (ps_expr (pe_bm PySem.F.plainAttrs_list PySem.F.slot_list_append PySem.F.type_list_append mt_append (pv 1) (pa_cons (pv 3) pa_nil))) -- _law_letters.append(_law_sign)
            (pss_one (ps_expr (pe_bm PySem.F.plainAttrs_list PySem.F.slot_list_append PySem.F.type_list_append mt_append (pv 2) (pa_cons pe_str pa_nil)))))
            (pss_one (ps_ret pe_non))))))) -- for _law_sign in _law_x:
      (pss_cons (ps_set (i := 4) nd rfl (Or.inl rfl) (pe_callB (cr_all rfl) (by rfl) T.n_all (by decide +kernel) (pa_cons (pe_lc (own := [("_law_x", 0)]) (g := (gName 0)) (by rfl) nd (pi_list (pv 2)) (blkOk_by (N := ["_law_x", "_law_letters", "_law_digits", "_law_sign", "_law_is_up", "_law_is_plain", "_law_d"]) (sc := defScope s_law_read) (own := [("_law_x", 0)]) (by decide +kernel)) (fun _ _ _ _ _ => (pg_name (i := 0) nd rfl (Or.inr rfl) (.inl rfl))) (fun _ _ _ _ _ => pts_nil) (fun _ _ _ _ _ => (pe_cmpR op_eq (pe_join pe_str (pe_lc (own := [("_law_d", 6)]) (g := (gName 6)) (by rfl) nd (pi_str pe_str) (blkOk_by (own := [("_law_d", 6)]) (by rfl)) (fun _ _ _ _ _ => (pg_name (i := 6) nd rfl (Or.inl rfl) (.inr rfl))) (fun _ _ _ _ _ => pts_one (pt_cmpR op_in_sign (pv 6) (pv 0) rfl)) (fun _ _ _ _ _ => (pv 6))) : PE _ _ (tM1 (rJn K) _ _)) (pv 0) (nomark _)))) pa_nil))) -- _law_is_up = all([''.join([_law_d for _law_d in '0123456789' if _law_d in _law_x]) == _law_x for _law_x in _law_digits])
      (pss_cons (ps_set (i := 5) nd rfl (Or.inl rfl) (pe_mid (pe_or (pe_cmpR op_eq (pe_join pe_str (pv 2) : PE _ _ (tM1 (rJn K) _ _)) pe_str (nomark _)) (pe_one (pe_callB (cr_all rfl) (by rfl) T.n_all (by decide +kernel) (pa_cons (pe_lc (own := [("_law_sign", 3)]) (g := (gName 3)) (by rfl) nd (pi_list (pv 1)) (blkOk_by (N := ["_law_x", "_law_letters", "_law_digits", "_law_sign", "_law_is_up", "_law_is_plain", "_law_d"]) (sc := defScope s_law_read) (own := [("_law_sign", 3)]) (by decide +kernel)) (fun _ _ _ _ _ => (pg_name (i := 3) nd rfl (Or.inl rfl) (.inr rfl))) (fun _ _ _ _ _ => pts_nil) (fun _ _ _ _ _ => (pe_cmpR op_eq (pv 3) (pe_lower (pv 3)) (nomark _)))) pa_nil)))))) -- _law_is_plain = ''.join(_law_digits) == '' or all([_law_sign == _law_sign.lower() for _law_sign in _law_letters])
      (pss_one (ps_ret (pe_ifExp (PW.pt (pw_and (pt_cmpR (op_neD hr.units) (pv 1) (pe_lst pa_nil) (nomark _)) (pw_and (pt_val (pv 4)) (pw_and1 (pt_val (pv 5)))))) (pe_tup (pa_cons (pv 1) (pa_cons (pv 2) pa_nil))) pe_non)))))))), ?_⟩
  have hl := hp.cs_len
  refine ⟨_, rfl, _, _, _, _, true, rfl, .ty _, .base (.str _), kit_ty (by decide +kernel), true, rfl, iteF ?_⟩
  refine ⟨szk, fun a na => ⟨szk, fun b nb => ⟨_, _, rfl, ?_⟩⟩⟩
  have ab : a ≠ b := ne_of_none upd_same nb
  have hs0 : p.cs.length = p.txt.cps.size := by rw [Pt.txt, S_size]
  have fa : H a = none := na
  have fb : H b = none := fresh (Ex.new na) nb
  refine ⟨_, rfl, _, rfl, ?_⟩
  refine for_it walk_str (fun i σ H' => Ex H H' ∧ (∃ x, σ = [some (.str p.txt), some (.ref a), some (.ref b), x, none, none, none]) ∧ H' a = some (.lst (vst (rfold (p.cs.take i)).1)) ∧ H' b = some (.lst (vmk ((rfold (p.cs.take i)).2.1 ++ [(rfold (p.cs.take i)).2.2]))) ∧ (rfold (p.cs.take i)).1.length ≤ i ∧ (rfold (p.cs.take i)).2.1.length ≤ i ∧ (rfold (p.cs.take i)).2.2.length ≤ i)
    ⟨(Ex.new na).trans (Ex.new nb), ⟨_, rfl⟩, at_ne upd_same ab, upd_same, Nat.le_refl _, Nat.le_refl _, Nat.le_refl _⟩ (fun _ _ _ _ _ => trivial) ?_ ?_
  · rintro i x σ H0 H' hi ⟨e1, ⟨y, rfl⟩, ha, hb, l1, l2, l3⟩ ⟨rfl, c, hc, rfl⟩
    rw [show p.txt = S p.cs from rfl, S_get] at hc
    have hcm : c ∈ p.cs := List.mem_of_getElem? hc
    rw [rfold, fold_take _ _ hc, ← rfold]
    generalize rfold (p.cs.take i) = t at *
    obtain ⟨t1, t2, t3⟩ := t
    have hi' : i < 98 := by rw [← hs0] at hi; omega
    have l1 : t1.length ≤ i := l1
    have l2 : t2.length ≤ i := l2
    have l3 : t3.length ≤ i := l3
    refine ⟨_, rfl, _, digT, rfl, rfl, _, rfl, ?_⟩
    rw [in_dig]
    rcases hp.sign hcm with h | h
    · rw [rstep_dg h]
      rw [show isDg c = true from decide_eq_true h]
      refine iteT ⟨_, rfl, 1, rfl, _, _, _, .str (S t3), rfl, rfl, .of hb, by rw [vmk_snoc]; exact atI_last _ _, _, rfl, ?_⟩
      refine ⟨_, _, rfl, rfl, sz3 (by rw [S_len]; show _ + 1 ≤ _; omega), _, rfl, 1, rfl, _, _, _, t2.length, rfl, rfl, hb, ixN_neg1 (by rw [vmk_len, List.length_append]; rfl), ?_⟩
      refine ⟨ex_upd e1 fb, ⟨_, rfl⟩, at_ne ha ab, ?_, Nat.le_succ_of_le l1, Nat.le_succ_of_le l2, ?_⟩
      · rw [upd_same, S_one, S_app, vmk_set]
      · rw [List.length_append]
        exact Nat.succ_le_succ l3
    · rw [rstep_sm h]
      rw [show isDg c = false from decide_eq_false (by omega)]
      refine iteF ⟨_, rfl, _, letT, rfl, rfl, _, rfl, ?_⟩
      rw [in_let h]
      refine iteT ⟨_, rfl, .inl ⟨rfl, _, .of ha⟩, _, rfl, _, _, _, rfl, rfl, ha, by rw [vst_len]; exact small_len (by show t1.length < _; omega), ?_⟩
      have hb2 := at_ne (o := .lst (vst t1 ++ [sg c])) hb ab.symm
      refine ⟨_, rfl, .inl ⟨rfl, _, .of hb2⟩, _, _, _, rfl, rfl, hb2, by rw [vmk_len, List.length_append]; exact small_len (by show t2.length + 1 < _; omega), ?_⟩
      refine ⟨ex_upd (ex_upd e1 fa) fb, ⟨_, rfl⟩, at_ne ?_ ab, ?_, ?_, ?_, Nat.zero_le _⟩
      · rw [upd_same, vst_snoc]
      · rw [upd_same, vmk_snoc _ [], S_nil]
      · rw [List.length_append]
        exact Nat.succ_le_succ l1
      · rw [List.length_append]
        exact Nat.succ_le_succ l2
  · rintro σ H' ⟨e1, ⟨y, rfl⟩, ha, hb, l1, l2, l3⟩
    rw [← hs0, take_full] at ha hb
    obtain ⟨G, g, er, eG⟩ := rfold_ok hp
    rw [er] at ha hb
    have hb : H' b = some (.lst (vmk p.ms)) := by rw [← eG]; exact hb
    have ha : H' a = some (.lst (vst p.ls)) := ha
    have hll : p.ms.length ≤ 9 := by have h1 := hp.len; have h2 := hp.l8; omega
    refine ⟨_, rfl, b, rfl, ⟨_, .of hb⟩, fun D nD => lc_allT walk_list (by rw [vmk_len]; omega) nD (fun H' e => ex_l e (.of hb)) (fun i x H1 H2 Fin hi e ⟨e2, hx⟩ fy => ?_) fun H3 e3 => ?_⟩
    · subst e2
      obtain ⟨m, hm, rfl⟩ := List.mem_map.mp (List.mem_of_getElem? hx)
      have up := hp.up m hm
      have dg := hp.dg m hm
      have m8 := hp.m8 m hm
      refine ⟨rfl, ⟨_, rfl⟩, digT, rfl, fun D2 nD2 => lc_pure walk_str (fun j => decide (digT.cps.toList.getD j 0 ∈ m)) (fun j => sg (digT.cps.toList.getD j 0)) (by decide +kernel) nD2 (fun _ _ => trivial) (fun j x H5 H6 Fin2 Fn2 hj e5 ⟨eh, ch, hx, ex⟩ fy2 fn2 => ?_) fun H5 e5 hl5 => ?_⟩
      · subst eh ex
        rw [← Array.getElem?_toList] at hx
        rw [getD_of hx] at fy2 fn2
        refine ⟨rfl, _, rfl, _, rfl, _, _, rfl, rfl, _, rfl, ?_⟩
        rw [S_cps]
        cases hd : decide (ch ∈ m) with
        | true => exact iteT ⟨_, rfl, fy2 hd _ (Ex.refl _)⟩
        | false => exact iteF (fn2 hd _ (Ex.refl _))
      · rw [← Array.length_toList, given_filter digT.cps.toList fun d => decide (d ∈ m), dig_filter up dg] at hl5
        refine rJn_vst (.of hl5) (by omega) ⟨_, rfl, rfl, ?_⟩
        rw [decide_eq_true (show V.str (S m) = V.str (S m) from rfl)]
        exact fy _ e5
    have ha3 := e3 _ _ ha
    have hb3 := e3 _ _ hb
    have e13 := e1.trans e3
    refine ⟨fun v H4 => v = .bl true ∧ Ex H3 H4, ?_, ?_⟩
    · refine ⟨⟨_, rfl⟩, _, rfl, rJn_vmk (.of hb3) ?_ ⟨rfl, _, rfl, ite2 (fun _ => ⟨rfl, Ex.refl _⟩) fun _ => ?_⟩⟩
      · have : p.ms.flatten.length ≤ p.ms.length * 10 := flat_le hp.m8
        omega
      refine ⟨_, rfl, a, rfl, ⟨_, .of ha3⟩, fun D nD => lc_allT walk_list (by rw [vst_len]; have := hp.l8; omega) nD (fun H' e => ex_l e (.of ha3)) (fun i x H1 H2 Fin hi e ⟨e2, hx⟩ fy => ?_) fun H4 e4 => ⟨rfl, e4⟩⟩
      subst e2
      obtain ⟨c, hc, rfl⟩ := List.mem_map.mp (List.mem_of_getElem? hx)
      refine ⟨rfl, _, rfl, _, rfl, ⟨_, rfl⟩, ⟨#[c]⟩, rfl, rfl, (by show 1 ≤ 5592405; decide), rfl, ?_⟩
      rw [lower_sg (hp.sm c hc), decide_eq_true rfl]
      exact fy _ (Ex.refl _)
    · rintro v H4 ⟨rfl, e4⟩
      have ha4 := e4 _ _ ha3
      have hb4 := e4 _ _ hb3
      have nls : decide (p.ls = []) = false := decide_eq_false hp.ne
      refine ⟨_, rfl, szk, fun q nq => ne_vst (l := p.ls) (k := []) (.of (at_new ha4 nq)) (.of upd_same) (fun c hc => by have := hp.sm c hc; omega) (fun _ h => nomatch h) ⟨_, rfl, ?_⟩⟩
      rw [nls]
      have e5 := ex_new (o := .lst []) (e13.trans e4) nq
      refine iteT ⟨_, rfl, _, rfl, iteT ⟨_, rfl, _, rfl, iteT ⟨_, rfl, _, rfl, szk, fun t nt => ?_⟩⟩⟩
      exact k t a b _ (ex_new e5 nt) (fresh e5 nt) fa fb ab upd_same (at_new (at_new ha4 nq) nt) (at_new (at_new hb4 nq) nt)
-- _law_same: 0:_law_found, 1:_law_due, 2:_law_a, 3:_law_b
theorem sc_law_same : FnScope ["_law_found", "_law_due", "_law_a", "_law_b"] ["_law_found", "_law_due"] (defScope s_law_same) := ⟨rfl, rfl, rfl, by decide +kernel, rfl, by decide +kernel, by decide +kernel⟩
theorem ok_law_same {f : Addr} {fd : FuncData} (F : FnP K "_law_same" "_law_same" s_law_same f fd) (m : mg "_law_same" = some (.ref f)) (T : Fx K mg)   : Cal P w K mg base "_law_same" 1 ["_law_found", "_law_due"] (sp_law_same K) := by
  refine ⟨f, fd, ?_, m, F.kp, F.bindsN fun _ _ _ _ _ _ us hl => match us, hl with | [_, _], _ => rfl⟩
  refine F.ok sc_law_same (fun vs H Q E h => by rcases h with ⟨_, _, rfl, _⟩ | ⟨_, _, rfl, _⟩ <;> rfl) (fun cdv A outer s H vs Q E hr h => ?_)
  have nd := sc_law_same.nd
  have hu := hu_of hr
  refine ⟨_, PSs.nox (pss_cons (ps_if (pt_val (pe_callB call_isiT (by rfl) T.n_isinstance (by decide +kernel) (pa_cons (pv 1) (pa_cons (pe_tup (pa_cons (pe_tyn "list" (by rfl) T.n_list (by decide +kernel)) (pa_cons (pe_tyn "tuple" (by rfl) T.n_tuple (by decide +kernel)) pa_nil))) pa_nil))))
        (pss_cons (ps_if pt_never
          (pss_one (ps_ret pe_bl))
          pss_nil) -- if isinstance(_law_found, list) != isinstance(_law_due, list) or isinstance(_law_found, tuple) != isinstance(_law_due, tuple):
        (pss_one (ps_ret pe_never)))
        pss_nil) -- if isinstance(_law_due, (list, tuple)):
      (pss_cons (ps_if (pt_val (pe_callB call_isi (by rfl) T.n_isinstance (by decide +kernel) (pa_cons (pv 1) (pa_cons (pe_tyn "int" (by rfl) T.n_int (by decide +kernel)) pa_nil))))
        (pss_one (ps_ret (pe_and (pe_callB call_isi (by rfl) T.n_isinstance (by decide +kernel) (pa_cons (pv 0) (pa_cons (pe_tyn "int" (by rfl) T.n_int (by decide +kernel)) pa_nil))) (pe_and (pe_cmpR op_eq (pe_callB call_isi (by rfl) T.n_isinstance (by decide +kernel) (pa_cons (pv 0) (pa_cons (pe_tyn "bool" (by rfl) T.n_bool (by decide +kernel)) pa_nil))) (pe_callB call_isi (by rfl) T.n_isinstance (by decide +kernel) (pa_cons (pv 1) (pa_cons (pe_tyn "bool" (by rfl) T.n_bool (by decide +kernel)) pa_nil))) (nomark _)) (pe_one (pe_cmpR op_eq (pv 0) (pv 1) (nomark _)))))))
        pss_nil) -- if isinstance(_law_due, int):
      (pss_one (ps_ret (pe_and (pe_cmpR op_isBl (pe_callB call_isiT (by rfl) T.n_isinstance (by decide +kernel) (pa_cons (pv 0) (pa_cons (pe_tup (pa_cons (pe_tyn "bool" (by rfl) T.n_bool (by decide +kernel)) (pa_cons (pe_tyn "int" (by rfl) T.n_int (by decide +kernel)) (pa_cons (pe_tyn "list" (by rfl) T.n_list (by decide +kernel)) (pa_cons (pe_tyn "tuple" (by rfl) T.n_tuple (by decide +kernel)) pa_nil))))) pa_nil))) pe_bl (nomark _)) (pe_one (pe_cmpR op_eq (pv 0) (pv 1) (nomark _)))))))), ?_⟩
  rcases h with ⟨a, b, rfl, k⟩ | ⟨a, b, rfl, k⟩
  · refine ⟨_, rfl, szk, fun tp ntp => ?_⟩
    refine ⟨_, tp, _, _, [.type "list", .type "tuple"], false, rfl, upd_same, .cons (.ty _) (.cons (.ty _) .nil), .base (.bl _), tup2_no (by decide +kernel) (by decide +kernel), _, rfl, iteF ?_⟩
    refine ⟨_, rfl, _, _, _, _, true, rfl, .ty _, .base (.bl _), kit_ty (by decide +kernel), _, rfl, iteT ?_⟩
    refine ⟨_, rfl, _, _, _, _, true, rfl, .ty _, .base (.bl _), kit_ty (by decide +kernel), _, rfl, iteT ?_⟩
    refine ⟨_, rfl, _, _, _, _, true, rfl, .ty _, .base (.bl _), kit_ty (by decide +kernel), _, rfl, _, _, _, _, true, rfl, .ty _, .base (.bl _), kit_ty (by decide +kernel), rfl, _, rfl, iteS ?_⟩
    refine ⟨_, rfl, _, rfl, rfl, ?_⟩
    have q := k _ (Ex.new ntp (o := .tup [.ty "list", .ty "tuple"]))
    cases a <;> cases b <;> exact q
  · refine ⟨_, rfl, szk, fun tp ntp => ?_⟩
    refine ⟨_, tp, _, _, [.type "list", .type "tuple"], false, rfl, upd_same, .cons (.ty _) (.cons (.ty _) .nil), .base (.str _), tup2_no (by decide +kernel) (by decide +kernel), _, rfl, iteF ?_⟩
    refine ⟨_, rfl, _, _, _, _, false, rfl, .ty _, .base (.str _), kit_ty (by decide +kernel), _, rfl, iteF ?_⟩
    refine ⟨_, rfl, szk, fun tq ntq => ?_⟩
    refine ⟨_, tq, _, _, [.type "bool", .type "int", .type "list", .type "tuple"], false, rfl, upd_same, .cons (.ty _) (.cons (.ty _) (.cons (.ty _) (.cons (.ty _) .nil))), .base (.str _), ?_, false, false, rfl, rfl, _, rfl, iteT ?_⟩
    · exact kitAny_cons (kit_ty (show kitB "str" "bool" = some false by decide +kernel)) (fun _ => kitAny_cons (kit_ty (show kitB "str" "int" = some false by decide +kernel)) (fun _ => tup2_no (by decide +kernel) (by decide +kernel)) fun z => nomatch z) fun z => nomatch z
    · exact ⟨_, rfl, _, rfl, rfl, k _ (ex_new (Ex.new ntp) ntq)⟩
end
end K21
end

/-! K21W13 -/
section
set_option Elab.async false
set_option linter.all false
set_option maxRecDepth 100000
set_option maxHeartbeats 4000000
/-! the law's own look at a place -/
namespace K21
open PySem PySem.Spec PyProof.Rows L2
open Evl (Ex ex_l ex_t)
def sp_law_fits (K : PySem.W.Frag) : Sp := sp_fits K
section
variable {P : Program} {w : World} {K : PySem.W.Frag} {mg : Str → Option Value} {base : Heap} {C CL : Addr}
-- _law_fits: 0:_law_path_here, 1:_law_i, 2:_law_kept, 3:_law_letters, 4:_law_digits, 5:_law_own, 6:_law_marked_here, 7:_law_j, 8:_law_d  cells: _law_digits _law_i _law_j
theorem sc_law_fits : FnScope ["_law_path_here", "_law_i", "_law_kept", "_law_letters", "_law_digits", "_law_own", "_law_marked_here", "_law_j", "_law_d"] ["_law_path_here", "_law_i", "_law_kept"] (defScope s_law_fits) := ⟨rfl, rfl, rfl, by decide +kernel, rfl, by decide +kernel, by decide +kernel⟩
theorem ok_law_fits {f : Addr} {fd : FuncData} (F : FnP K "_law_fits" "_law_fits" s_law_fits f fd) (m : mg "_law_fits" = some (.ref f)) (T : Fx K mg)  (C_law_read : Cal P w K mg base "_law_read" 1 ["_law_x"] (sp_law_read K)) : Cal P w K mg base "_law_fits" 2 ["_law_path_here", "_law_i", "_law_kept"] (sp_law_fits K) := by
  refine ⟨f, fd, ?_, m, F.kp, F.bindsN fun _ _ _ _ _ _ us hl => match us, hl with | [_, _, _], _ => rfl⟩
  refine F.ok sc_law_fits (fun vs H Q E h => by obtain ⟨p, q, i, rfl, hp, hq, hi, k⟩ := h; rfl) (fun cdv A outer s H vs Q E hr h => ?_)
  obtain ⟨p, q, i, rfl, hp, hq, hi, k⟩ := h
  have nd := sc_law_fits.nd
  have hu := hu_of hr
  refine ⟨_, PSs.nox (pss_cons (ps_asg (pe_tup (pa_cons (pe_cal C_law_read (hr.mono (by decide)) (by rfl) (pa_cons (pv 0) pa_nil)) (pa_cons (pe_cal C_law_read (hr.mono (by decide)) (by rfl) (pa_cons (pv 2) pa_nil)) pa_nil))) (pg_tup rfl (pgs_cons (pg_tup rfl (pgs_cons (pg_name (i := 3) nd rfl (Or.inl rfl)) (pgs_cons (pg_name (i := 4) nd rfl (Or.inr rfl)) pgs_nil))) (pgs_cons (pg_tup rfl (pgs_cons (pg_name (i := 5) nd rfl (Or.inl rfl)) (pgs_cons (pg_name (i := 6) nd rfl (Or.inl rfl)) pgs_nil))) pgs_nil)))) -- (_law_letters, _law_digits), (_law_own, _law_marked_here) = (_law_read(_law_path_here), _law_read(_law_kept))
      (pss_cons (ps_set (i := 7) nd rfl (Or.inr rfl) (pe_op op_add (pv 1) (pe_callB call_len_seq (by rfl) T.n_len (by decide +kernel) (pa_cons (pv 5) pa_nil)))) -- _law_j = _law_i + len(_law_own)
      (pss_cons (ps_if (PW.pt (pw_or (pt_cmpR op_lt (pv 1) pe_int (nomark _)) (pw_or (pt_cmpR (op_neD hr.units) (pe_slice sl_list (pv 3) (po_some (pv 1)) (po_some (pv 7))) (pv 5) (nomark _)) (pw_or1 (pt_cmpR (op_neD hr.units) (pe_slice sl_list (pv 4) (po_some (pe_op op_add (pv 1) pe_int)) (po_some (pv 7))) (pe_slice sl_list (pv 6) (po_some pe_int) (po_some (pe_un un_neg pe_int))) (nomark _))))))
        (pss_one (ps_ret pe_bl))
        pss_nil) -- if _law_i < 0 or _law_letters[_law_i:_law_j] != _law_own or _law_digits[_law_i + 1:_law_j] != _law_marked_here[1:-1]:
      (pss_one (ps_ret (pe_and (pe_callB (cr_all rfl) (by rfl) T.n_all (by decide +kernel) (pa_cons (pe_lc (own := [("_law_d", 8)]) (g := (gName 8)) (by rfl) nd (pi_str (pe_ix ix_list (pv 6) pe_int (fun _ _ => rfl))) (blkOk_by (N := ["_law_path_here", "_law_i", "_law_kept", "_law_letters", "_law_digits", "_law_own", "_law_marked_here", "_law_j", "_law_d"]) (sc := defScope s_law_fits) (own := [("_law_d", 8)]) (by decide +kernel)) (fun _ _ _ _ _ => (pg_name (i := 8) nd rfl (Or.inl rfl) (.inr rfl))) (fun _ _ _ _ _ => pts_nil) (fun _ _ _ _ _ => (pe_cmpR op_in_sign (pv 8) (pe_ix (ix_list : IxR _ (rIxL K)) (pv 4) (pv 1) (fun _ _ => rfl)) rfl))) pa_nil)) (pe_one (pe_callB (cr_all rfl) (by rfl) T.n_all (by decide +kernel) (pa_cons (pe_lc (own := [("_law_d", 8)]) (g := (gName 8)) (by rfl) nd (pi_str (pe_ix ix_list (pv 6) (pe_un un_neg pe_int) (fun _ _ => rfl))) (blkOk_by (N := ["_law_path_here", "_law_i", "_law_kept", "_law_letters", "_law_digits", "_law_own", "_law_marked_here", "_law_j", "_law_d"]) (sc := defScope s_law_fits) (own := [("_law_d", 8)]) (by decide +kernel)) (fun _ _ _ _ _ => (pg_name (i := 8) nd rfl (Or.inl rfl) (.inr rfl))) (fun _ _ _ _ _ => pts_nil) (fun _ _ _ _ _ => (pe_cmpR op_in_sign (pv 8) (pe_ix (ix_list : IxR _ (rIxL K)) (pv 4) (pv 7) (fun _ _ => rfl)) rfl))) pa_nil))))))))), ?_⟩
  have lq : 1 ≤ q.ls.length := List.length_pos_iff.mpr hq.ne
  have gp : ∀ c ∈ p.ls, c < 1000 := fun c hc => by have := hp.sm c hc; omega
  have gq : ∀ c ∈ q.ls, c < 1000 := fun c hc => by have := hq.sm c hc; omega
  have dp : ∀ m ∈ p.ms, ∀ c ∈ m, c < 1000 := fun m hm c hc => by have := hp.dg m hm c hc; omega
  have dq : ∀ m ∈ q.ms, ∀ c ∈ m, c < 1000 := fun m hm c hc => by have := hq.dg m hm c hc; omega
  refine ⟨_, rfl, p, rfl, hp, fun t1 a1 b1 H1 e1 nt1 na1 nb1 ab1 ht1 ha1 hb1 => ⟨_, rfl, q, rfl, hq, fun t2 a2 b2 H2 e2 nt2 na2 nb2 ab2 ht2 ha2 hb2 => ⟨szk, fun tp ntp => ?_⟩⟩⟩
  refine ⟨tp, _, rfl, .of upd_same, rfl, _, _, rfl, t1, _, rfl, .of (at_new (e2 _ _ ht1) ntp), rfl, _, _, rfl, _, _, rfl, rfl, _, _, rfl, t2, _, rfl, .of (at_new ht2 ntp), rfl, _, _, rfl, _, _, rfl, rfl, rfl, ?_⟩
  have e3 := ex_new (o := .tup [.ref t1, .ref t2]) (e1.trans e2) ntp
  have ha1 := at_new (o := .tup [.ref t1, .ref t2]) (e2 _ _ ha1) ntp
  have hb1 := at_new (o := .tup [.ref t1, .ref t2]) (e2 _ _ hb1) ntp
  have ha2 := at_new (o := .tup [.ref t1, .ref t2]) ha2 ntp
  have hb2 := at_new (o := .tup [.ref t1, .ref t2]) hb2 ntp
  generalize upd H2 tp (.tup [.ref t1, .ref t2]) = H3 at e3 ha1 hb1 ha2 hb2 ⊢
  refine ⟨_, rfl, _, rfl, _, _, rfl, .inl (.of ha2), _, _, rfl, rfl, ?_⟩
  rw [vst_len]
  refine ⟨_, rfl, _, _, rfl, rfl, _, rfl, ?_⟩
  rw [decide_eq_false (show ¬ ((i : Int) < 0) by omega)]
  refine iteF ⟨_, rfl, _, rfl, _, rfl, _, rfl, _, rfl, a1, _, rfl, .of ha1, fun s ns => ?_⟩
  have hs : upd H3 s (.lst (cutV (vst p.ls) (some (i : Int)) (some ((i : Int) + (q.ls.length : Nat))))) s = some (.lst (vst ((p.ls.drop i).take q.ls.length))) := by
    rw [upd_same, vst, cutV_map, show ((i : Int) + (q.ls.length : Nat)) = ((i + q.ls.length : Nat) : Int) from rfl, cutL_mid _ (Nat.le_add_right _ _) hi, Nat.add_sub_cancel_left]
    rfl
  refine ⟨_, rfl, ne_vst (.of hs) (.of (at_new ha2 ns)) (fun c hc => gp c (List.mem_of_mem_drop (List.mem_of_mem_take hc))) gq ⟨_, rfl, ?_⟩⟩
  have e4 := ex_new (o := .lst (cutV (vst p.ls) (some (i : Int)) (some ((i : Int) + (q.ls.length : Nat))))) e3 ns
  have hb1 := at_new (o := .lst (cutV (vst p.ls) (some (i : Int)) (some ((i : Int) + (q.ls.length : Nat))))) hb1 ns
  have hb2 := at_new (o := .lst (cutV (vst p.ls) (some (i : Int)) (some ((i : Int) + (q.ls.length : Nat))))) hb2 ns
  generalize upd H3 s (.lst (cutV (vst p.ls) (some (i : Int)) (some ((i : Int) + (q.ls.length : Nat))))) = H4 at e4 hb1 hb2 ⊢
  by_cases h1 : (p.ls.drop i).take q.ls.length = q.ls
  case neg =>
    rw [decide_eq_false h1]
    refine iteT (iteT ?_)
    have f1 : fitB p q i = false := by unfold fitB; rw [decide_eq_false h1]; rfl
    rw [f1] at k
    exact k _ e4
  rw [decide_eq_true h1]
  have lm := hp.len
  have lmq := hq.len
  refine iteF ⟨_, rfl, _, rfl, _, _, rfl, rfl, _, rfl, _, rfl, _, rfl, b1, _, rfl, .of hb1, fun u nu => ?_⟩
  have hu1 : upd H4 u (.lst (cutV (vmk p.ms) (some ((i : Int) + 1)) (some ((i : Int) + (q.ls.length : Nat))))) u = some (.lst (vmk ((p.ms.drop (i + 1)).take (q.ls.length - 1)))) := by
    rw [upd_same, vmk, cutV_map, show ((i : Int) + (q.ls.length : Nat)) = ((i + q.ls.length : Nat) : Int) from rfl, show ((i : Int) + 1) = ((i + 1 : Nat) : Int) from rfl, cutL_mid _ (by omega) (by omega), show i + q.ls.length - (i + 1) = q.ls.length - 1 by omega]
    rfl
  have hb1u := at_new (o := .lst (cutV (vmk p.ms) (some ((i : Int) + 1)) (some ((i : Int) + (q.ls.length : Nat))))) hb1 nu
  have hb2u := at_new (o := .lst (cutV (vmk p.ms) (some ((i : Int) + 1)) (some ((i : Int) + (q.ls.length : Nat))))) hb2 nu
  have e5 := ex_new (o := .lst (cutV (vmk p.ms) (some ((i : Int) + 1)) (some ((i : Int) + (q.ls.length : Nat))))) e4 nu
  generalize upd H4 u (.lst (cutV (vmk p.ms) (some ((i : Int) + 1)) (some ((i : Int) + (q.ls.length : Nat))))) = H5 at hu1 hb1u hb2u e5 ⊢
  refine ⟨_, rfl, 1, rfl, 1, rfl, _, rfl, b2, _, rfl, .of hb2u, fun v nv => ?_⟩
  have hv1 : upd H5 v (.lst (cutV (vmk q.ms) (some 1) (some (-1)))) v = some (.lst (vmk ((q.ms.drop 1).dropLast))) := by
    rw [upd_same, vmk, cutV_map, cutL_in _ (by omega)]
    rfl
  have hb1v := at_new (o := .lst (cutV (vmk q.ms) (some 1) (some (-1)))) hb1u nv
  have hb2v := at_new (o := .lst (cutV (vmk q.ms) (some 1) (some (-1)))) hb2u nv
  have hu2 := at_new (o := .lst (cutV (vmk q.ms) (some 1) (some (-1)))) hu1 nv
  have e6 := ex_new (o := .lst (cutV (vmk q.ms) (some 1) (some (-1)))) e5 nv
  generalize upd H5 v (.lst (cutV (vmk q.ms) (some 1) (some (-1)))) = H6 at hv1 hb1v hb2v hu2 e6 ⊢
  refine ne_vmk (.of hu2) (.of hv1) (fun m hm => dp m (List.mem_of_mem_drop (List.mem_of_mem_take hm))) (fun m hm => dq m (List.mem_of_mem_drop ((List.dropLast_sublist _).subset hm))) ⟨_, rfl, ?_⟩
  by_cases h2 : (p.ms.drop (i + 1)).take (q.ls.length - 1) = (q.ms.drop 1).dropLast
  case neg =>
    rw [decide_eq_false h2]
    refine iteT ?_
    have f1 : fitB p q i = false := by unfold fitB; rw [show decide ((q.ms.drop 1).dropLast = (p.ms.drop (i + 1)).take (q.ls.length - 1)) = false from decide_eq_false fun e => h2 e.symm, Bool.false_and, Bool.and_false]
    rw [f1] at k
    exact k _ e6
  rw [decide_eq_true h2]
  refine iteF ?_
  have f1 : fitB p q i = ((q.ms.headD []).all (fun d => (p.ms.getD i []).contains d) && (q.ms.getLastD []).all (fun d => (p.ms.getD (i + q.ls.length) []).contains d)) := by
    unfold fitB
    rw [decide_eq_true h1, decide_eq_true h2.symm, Bool.true_and, Bool.true_and]
  rw [f1] at k
  have p0 : p.ms[i]? = some (p.ms.getD i []) := by
    rw [List.getD_eq_getElem?_getD, List.getElem?_eq_getElem (by omega)]
    rfl
  have p1 : p.ms[i + q.ls.length]? = some (p.ms.getD (i + q.ls.length) []) := by
    rw [List.getD_eq_getElem?_getD, List.getElem?_eq_getElem (by omega)]
    rfl
  have q0 : q.ms[0]? = some (q.ms.headD []) := by
    cases e : q.ms with
    | nil => rw [e] at lmq; cases lmq
    | cons x r => rfl
  have q1 : q.ms.getLast? = some (q.ms.getLastD []) := by
    rw [List.getLastD_eq_getLast?, List.getLast?_eq_some_getLast (fun e => by rw [e] at lmq; cases lmq)]
    rfl
  generalize q.ms.headD [] = m0 at *
  generalize q.ms.getLastD [] = m1 at *
  have hm0 : m0 ∈ q.ms := List.mem_of_getElem? q0
  have hm1 : m1 ∈ q.ms := List.mem_of_getLast? q1
  refine ⟨_, rfl, _, _, 0, .str (S m0), rfl, rfl, .of hb2v, atI_nat (j := 0) (by rw [vmk, List.getElem?_map, q0]; rfl), _, rfl, fun D nD => lc_allB walk_str (fun j => (p.ms.getD i []).contains (m0.getD j 0)) (by rw [S_size]; have := hq.m8 _ hm0; omega) nD (fun _ _ => trivial) (fun j x H' H2 Fin hj e ⟨eh, ch, hx, ex⟩ fy => ?_) fun H8 e11 => ⟨_, rfl, ?_⟩⟩
  · subst eh ex
    rw [S_get] at hx
    refine ⟨rfl, _, rfl, _, rfl, _, rfl, _, _, (i : Int), .str (S (p.ms.getD i [])), rfl, rfl, .of (e _ _ hb1v), atI_nat (by rw [vmk, List.getElem?_map, p0]; rfl), _, _, rfl, rfl, ?_⟩
    have q := fy _ (Ex.refl _)
    rw [getD_of hx, List.contains_eq_mem] at q
    rw [S_cps]
    exact q
  rw [S_size, all_get]
  have e12 := e6.trans e11
  by_cases h3 : (m0.all fun d => (p.ms.getD i []).contains d) = true
  case neg =>
    have h3 := Bool.eq_false_iff.mpr h3
    rw [h3]
    refine iteF ?_
    rw [h3, Bool.false_and] at k
    exact k _ e12
  rw [h3]
  rw [h3, Bool.true_and] at k
  have hb8 := e11 _ _ hb1v
  have hc8 := e11 _ _ hb2v
  refine iteT ⟨_, rfl, 1, rfl, _, _, _, .str (S m1), rfl, rfl, .of hc8, atI_neg1 (by rw [vmk, List.getLast?_map, q1]; rfl), _, rfl, fun D nD => lc_allB walk_str (fun j => (p.ms.getD (i + q.ls.length) []).contains (m1.getD j 0)) (by rw [S_size]; have := hq.m8 _ hm1; omega) nD (fun _ _ => trivial) (fun j x H' H2 Fin hj e ⟨eh, ch, hx, ex⟩ fy => ?_) fun H9 e13 => ?_⟩
  · subst eh ex
    rw [S_get] at hx
    refine ⟨rfl, _, rfl, _, rfl, _, rfl, _, _, ((i + q.ls.length : Nat) : Int), .str (S (p.ms.getD (i + q.ls.length) [])), rfl, rfl, .of (e _ _ hb8), atI_nat (by rw [vmk, List.getElem?_map, p1]; rfl), _, _, rfl, rfl, ?_⟩
    have q := fy _ (Ex.refl _)
    rw [getD_of hx, List.contains_eq_mem] at q
    rw [S_cps]
    exact q
  rw [S_size, all_get]
  exact k _ (e12.trans e13)
end
end K21
end

/-! K21W14 -/
section
set_option Elab.async false
set_option linter.all false
set_option maxRecDepth 100000
set_option maxHeartbeats 4000000
/-! a plan leads along the line -/
namespace K21
open PySem PySem.Spec PyProof.Rows L2
open Evl (Ex ex_l ex_t)
theorem way_on (bk : Bool) : decide (V.str (way bk) = V.str "on") = !bk := by cases bk <;> decide +kernel
def sp_law_led (K : PySem.W.Frag) : Sp := fun vs H Q _ => ∃ (kl l : Addr) (p : Pt) (ks : List Pt) (ys : List V) (pl : List (Nat × Bool)), vs = [.str p.txt, .ref kl, .ref l] ∧ p.Ok ∧ H kl = some (.lst (vtx ks)) ∧ (∀ q ∈ ks, q.Ok) ∧
  H l = some (.lst ys) ∧ Tups H ys (pl.map prW) ∧ Bf.Chain (brs p ks) p.ls.length 0 pl ∧ pl.length ≤ 100 ∧ ∀ fl H' zs, H fl = none → Ex H H' → H' fl = some (.lst zs) → zs.getLast? = some (.int (p.ls.length : Nat)) → Q (.ref fl) H'
def sp_law_is_plan (K : PySem.W.Frag) : Sp := fun vs H Q _ => ∃ (kl l : Addr) (p : Pt) (ks : List Pt) (ys : List V) (pl : List (Nat × Bool)), vs = [.str "any", .ref kl, .str p.txt, .ref l] ∧ p.Ok ∧ H kl = some (.lst (vtx ks)) ∧ (∀ q ∈ ks, q.Ok) ∧
  H l = some (.lst ys) ∧ Tups H ys (pl.map prW) ∧ Bf.Chain (brs p ks) p.ls.length 0 pl ∧ pl.length ≤ 100 ∧ RetV (.bl true) H Q
section
variable {P : Program} {w : World} {K : PySem.W.Frag} {mg : Str → Option Value} {base : Heap} {C CL : Addr}
-- _law_led: 0:_law_path_here, 1:_law_kept, 2:_law_plan, 3:_law_found, 4:_law_index, 5:_law_way, 6:_law_far, 7:_law_here
theorem sc_law_led : FnScope ["_law_path_here", "_law_kept", "_law_plan", "_law_found", "_law_index", "_law_way", "_law_far", "_law_here"] ["_law_path_here", "_law_kept", "_law_plan"] (defScope s_law_led) := ⟨rfl, rfl, rfl, by decide +kernel, rfl, by decide +kernel, by decide +kernel⟩
theorem ok_law_led {f : Addr} {fd : FuncData} (F : FnP K "_law_led" "_law_led" s_law_led f fd) (m : mg "_law_led" = some (.ref f)) (T : Fx K mg)  (C_law_fits : Cal P w K mg base "_law_fits" 2 ["_law_path_here", "_law_i", "_law_kept"] (sp_law_fits K)) (C_law_read : Cal P w K mg base "_law_read" 1 ["_law_x"] (sp_law_read K)) : Cal P w K mg base "_law_led" 3 ["_law_path_here", "_law_kept", "_law_plan"] (sp_law_led K) := by
  refine ⟨f, fd, ?_, m, F.kp, F.bindsN fun _ _ _ _ _ _ us hl => match us, hl with | [_, _, _], _ => rfl⟩
  refine F.ok sc_law_led (fun vs H Q E h => by obtain ⟨kl, l, p, ks, ys, pl, rfl, hp, hk, ko, hl, hT, hch, hz, k⟩ := h; rfl) (fun cdv A outer s H vs Q E hr h => ?_)
  obtain ⟨kl, l, p, ks, ys, pl, rfl, hp, hk, ko, hl, hT, hch, hz, k⟩ := h
  have nd := sc_law_led.nd
  have hu := hu_of hr
  refine ⟨_, PSs.nox (pss_cons (ps_set (i := 3) nd rfl (Or.inl rfl) (pe_lst (pa_cons pe_int pa_nil))) -- _law_found = [0]
      (pss_cons (ps_for PassesOwn.never rfl (pi_list (pv 2)) (pg_tup rfl (pgs_cons (pg_name (i := 4) nd rfl (Or.inl rfl)) (pgs_cons (pg_name (i := 5) nd rfl (Or.inl rfl)) pgs_nil)))
        (pss_cons (ps_set (i := 6) nd rfl (Or.inl rfl) (pe_callB call_len_seq (by rfl) T.n_len (by decide +kernel) (pa_cons (pe_ix ix_tup (pe_cal C_law_read (hr.mono (by decide)) (by rfl) (pa_cons (pe_ix ix_list (pv 1) (pv 4) (fun _ _ => rfl)) pa_nil)) pe_int (fun _ _ => rfl)) pa_nil))) -- _law_far = len(_law_read(_law_kept[_law_index])[0])
        (pss_cons (ps_set (i := 7) nd rfl (Or.inl rfl) (pe_ifExp (pt_cmpR op_eq (pv 5) pe_str (nomark _)) (pe_ix ix_list (pv 3) (pe_un un_neg pe_int) (fun _ _ => rfl)) (pe_op op_sub (pe_ix ix_list (pv 3) (pe_un un_neg pe_int) (fun _ _ => rfl)) (pv 6)))) -- _law_here = _law_found[-1] if _law_way == 'on' else _law_found[-1] - _law_far
        (pss_cons (ps_if (pt_not (pt_val (pe_cal C_law_fits (hr.mono (by decide)) (by rfl) (pa_cons (pv 0) (pa_cons (pv 7) (pa_cons (pe_ix ix_list (pv 1) (pv 4) (fun _ _ => rfl)) pa_nil))))))
          (pss_one (ps_ret pe_non))
          pss_nil) -- if not _law_fits(_law_path_here, _law_here, _law_kept[_law_index]):
        (pss_one (ps_expr (pe_bm PySem.F.plainAttrs_list PySem.F.slot_list_append PySem.F.type_list_append mt_append (pv 3) (pa_cons (pe_ifExp (pt_cmpR op_eq (pv 5) pe_str (nomark _)) (pe_op op_add (pv 7) (pv 6)) (pv 7)) pa_nil)))))))) -- for _law_index, _law_way in _law_plan:
      (pss_one (ps_ret (pv 3))))), ?_⟩
  have hyl := hT.1
  rw [List.length_map] at hyl
  refine ⟨szk, fun fl nf => ?_⟩
  have e0 : Ex H (upd H fl (.lst [.int 0])) := Ex.new nf
  refine ⟨_, rfl, l, rfl, ⟨_, .of (e0 _ _ hl)⟩, ?_⟩
  refine for_it walk_list (fun i σ H' => Ex H H' ∧ (∃ x1 x2 x3 x4, σ = [some (.str p.txt), some (.ref kl), some (.ref l), some (.ref fl), x1, x2, x3, x4]) ∧ ∃ zs u, H' fl = some (.lst zs) ∧ zs.length = i + 1 ∧ zs.getLast? = some (.int (u : Nat)) ∧ Bf.Chain (brs p ks) p.ls.length u (pl.drop i))
    ⟨e0, ⟨_, _, _, _, rfl⟩, _, 0, upd_same, rfl, rfl, hch⟩ (fun i σ H' _ pv => .of (pv.1 _ _ hl)) ?_ ?_
  · rintro i v σ H0 H' hi ⟨e1, ⟨x1, x2, x3, x4, rfl⟩, zs, u, hf, hzl, hzs, hc⟩ ⟨rfl, hv⟩
    have hip : i < pl.length := by omega
    rw [List.drop_eq_getElem_cons hip] at hc
    obtain ⟨t, rfl, ht⟩ := hT.2 i v (prW pl[i]) hv (by rw [List.getElem?_map, List.getElem?_eq_getElem hip]; rfl)
    generalize pl[i] = pr at hc ht
    obtain ⟨idx, bk⟩ := pr
    generalize hr' : pl.drop (i + 1) = rest at hc
    cases hc with
    | cons hg hc =>
    rename_i v
    refine ⟨t, _, rfl, .of (e1 _ _ ht), rfl, _, _, rfl, _, _, rfl, rfl, ?_⟩
    obtain ⟨q, s, hq, hfit, hle, hon, hbk⟩ : ∃ (q : Pt) (s : Nat), ks[idx]? = some q ∧ fitB p q s = true ∧ s + q.ls.length ≤ p.ls.length ∧ (bk = false → s = u ∧ v = u + q.ls.length) ∧ (bk = true → s = v ∧ u = v + q.ls.length) := by
      unfold Bf.Goes at hg
      cases bk with
      | true =>
        rw [if_pos rfl] at hg
        obtain ⟨q, h1, h2, h3, h4⟩ := mem_brs hg
        exact ⟨q, v, h1, h2, h4, (fun h => nomatch h), fun _ => ⟨rfl, h3⟩⟩
      | false =>
        rw [if_neg Bool.false_ne_true] at hg
        obtain ⟨q, h1, h2, h3, h4⟩ := mem_brs hg
        exact ⟨q, u, h1, h2, h4, fun _ => ⟨rfl, h3⟩, (fun h => nomatch h)⟩
    have hqo := ko q (List.mem_of_getElem? hq)
    have hidx : atI (vtx ks) ((idx : Nat) : Int) = some (.str q.txt) := atI_nat (by rw [vtx, List.getElem?_map, hq]; rfl)
    refine ⟨_, rfl, _, rfl, _, _, _, .str q.txt, rfl, rfl, .of (e1 _ _ hk), hidx, q, rfl, hqo, fun t1 a1 b1 H1 e2 nt1 na1 nb1 ab1 ht1 ha1 hb1 => ?_⟩
    refine ⟨_, _, 0, _, rfl, rfl, .of ht1, rfl, _, _, rfl, .inl (.of ha1), ?_⟩
    rw [vst_len]
    have hf1 := e2 _ _ hf
    have hk1 := e2 _ _ (e1 _ _ hk)
    have hlast := atI_neg1 hzs
    refine ⟨_, rfl, rfl, _, rfl, ?_⟩
    rw [way_on]
    cases bk with
    | false =>
      obtain ⟨rfl, rfl⟩ := hon rfl
      refine iteT ⟨_, rfl, 1, rfl, _, _, _, _, rfl, rfl, .of hf1, hlast, ?_⟩
      refine ⟨_, rfl, _, rfl, _, rfl, _, rfl, _, _, _, .str q.txt, rfl, rfl, .of hk1, hidx, p, q, s, rfl, hp, hqo, hle, fun H2 e3 => ?_⟩
      rw [hfit]
      have hf2 := e3 _ _ hf1
      refine ⟨_, rfl, iteF ⟨_, rfl, .inl ⟨rfl, _, .of hf2⟩, _, rfl, rfl, _, rfl, ?_⟩⟩
      rw [way_on]
      refine iteT ⟨_, rfl, _, rfl, _, _, rfl, rfl, _, _, _, rfl, rfl, hf2, small_len (by omega), ?_⟩
      exact ⟨ex_upd ((e1.trans e2).trans e3) nf, ⟨_, _, _, _, rfl⟩, _, s + q.ls.length, upd_same, by rw [List.length_append, hzl]; rfl, by rw [List.getLast?_append]; rfl, hc⟩
    | true =>
      obtain ⟨rfl, rfl⟩ := hbk rfl
      refine iteF ⟨_, rfl, 1, rfl, _, _, _, _, rfl, rfl, .of hf1, hlast, _, rfl, _, _, rfl, rfl, ?_⟩
      have eS : V.int (((s + q.ls.length : Nat) : Int) - (q.ls.length : Nat)) = V.int (s : Nat) := congrArg V.int (by omega)
      refine ⟨_, rfl, _, rfl, _, rfl, _, rfl, _, _, _, .str q.txt, rfl, rfl, .of hk1, hidx, p, q, s, (by show [V.str p.txt, V.int (((s + q.ls.length : Nat) : Int) - (q.ls.length : Nat)), V.str q.txt] = _; rw [eS]), hp, hqo, hle, fun H2 e3 => ?_⟩
      rw [hfit]
      have hf2 := e3 _ _ hf1
      refine ⟨_, rfl, iteF ⟨_, rfl, .inl ⟨rfl, _, .of hf2⟩, _, rfl, rfl, _, rfl, ?_⟩⟩
      rw [way_on]
      refine iteF ⟨_, rfl, _, _, _, rfl, rfl, hf2, small_len (by omega), ?_⟩
      exact ⟨ex_upd ((e1.trans e2).trans e3) nf, ⟨_, _, _, _, rfl⟩, _, s, upd_same, by rw [List.length_append, hzl]; rfl, by rw [List.getLast?_append]; exact congrArg some eS, hc⟩
  · rintro σ H' ⟨e1, ⟨x1, x2, x3, x4, rfl⟩, zs, u, hf, hzl, hzs, hc⟩
    rw [hyl, List.drop_length] at hc
    have hu0 : u = p.ls.length := by
      cases hc
      rfl
    rw [hu0] at hzs
    exact ⟨_, rfl, k fl H' zs nf e1 hf hzs⟩
-- _law_is_plan: 0:_law_manner, 1:_law_kept, 2:_law_path_here, 3:_law_plan, 4:_law_places, 5:_law_word_here
theorem sc_law_is_plan : FnScope ["_law_manner", "_law_kept", "_law_path_here", "_law_plan", "_law_places", "_law_word_here"] ["_law_manner", "_law_kept", "_law_path_here", "_law_plan"] (defScope s_law_is_plan) := ⟨rfl, rfl, rfl, by decide +kernel, rfl, by decide +kernel, by decide +kernel⟩
theorem ok_law_is_plan {f : Addr} {fd : FuncData} (F : FnP K "_law_is_plan" "_law_is_plan" s_law_is_plan f fd) (m : mg "_law_is_plan" = some (.ref f)) (T : Fx K mg)  (C_law_led : Cal P w K mg base "_law_led" 3 ["_law_path_here", "_law_kept", "_law_plan"] (sp_law_led K)) (C_law_read : Cal P w K mg base "_law_read" 1 ["_law_x"] (sp_law_read K)) : Cal P w K mg base "_law_is_plan" 4 ["_law_manner", "_law_kept", "_law_path_here", "_law_plan"] (sp_law_is_plan K) := by
  refine ⟨f, fd, ?_, m, F.kp, F.bindsN fun _ _ _ _ _ _ us hl => match us, hl with | [_, _, _, _], _ => rfl⟩
  refine F.ok sc_law_is_plan (fun vs H Q E h => by obtain ⟨kl, l, p, ks, ys, pl, rfl, hp, hk, ko, hl, hT, hch, hz, k⟩ := h; rfl) (fun cdv A outer s H vs Q E hr h => ?_)
  obtain ⟨kl, l, p, ks, ys, pl, rfl, hp, hk, ko, hl, hT, hch, hz, k⟩ := h
  have nd := sc_law_is_plan.nd
  have hu := hu_of hr
  refine ⟨_, PSs.nox (pss_cons (ps_if (pt_cmpR op_eq (pv 0) pe_str (nomark _))
        (pss_cons (ps_set (i := 4) nd rfl (Or.inl rfl) (pe_cal C_law_led (hr.mono (by decide)) (by rfl) (pa_cons (pv 2) (pa_cons (pv 1) (pa_cons (pv 3) pa_nil))))) -- _law_places = _law_led(_law_path_here, _law_kept, _law_plan)
        (pss_one (ps_ret (pe_and (pe_cmpR op_gt (pe_callB call_len_seq (by rfl) T.n_len (by decide +kernel) (pa_cons (pv 3) pa_nil)) pe_int (nomark _)) (pe_and (pe_cmpR op_notN (pv 4) pe_non (nomark _)) (pe_one (pe_cmpR op_eq (pe_ix ix_list (pv 4) (pe_un un_neg pe_int) (fun _ _ => rfl)) (pe_callB call_len_seq (by rfl) T.n_len (by decide +kernel) (pa_cons (pe_ix ix_tup (pe_cal C_law_read (hr.mono (by decide)) (by rfl) (pa_cons (pv 2) pa_nil)) pe_int (fun _ _ => rfl)) pa_nil)) (nomark _))))))))
        pss_nil) -- if _law_manner == 'any':
      pss_never), ?_⟩
  have hyl := hT.1
  rw [List.length_map] at hyl
  have hpl : 0 < pl.length := by
    cases pl with
    | nil =>
      exfalso
      have : (0 : Nat) = p.ls.length := by
        generalize hN : p.ls.length = N at hch ⊢
        generalize hz0 : (0 : Nat) = z at hch ⊢
        cases hch
        rfl
      exact hp.ne (List.length_eq_zero_iff.mp this.symm)
    | cons x r => exact Nat.succ_pos _
  refine ⟨_, rfl, rfl, _, rfl, iteS ?_⟩
  refine ⟨_, rfl, _, rfl, _, rfl, kl, l, p, ks, ys, pl, rfl, hp, hk, ko, hl, hT, hch, hz, fun fl H1 zs nf e1 hf hzs => ?_⟩
  refine ⟨_, rfl, _, _, rfl, .inl (.of (e1 _ _ hl)), _, _, rfl, rfl, _, rfl, ?_⟩
  rw [decide_eq_true (show (0 : Int) < (ys.length : Nat) by omega)]
  refine iteT ⟨_, rfl, rfl, _, rfl, iteT ?_⟩
  refine ⟨_, rfl, 1, rfl, _, _, _, _, rfl, rfl, .of hf, atI_neg1 hzs, _, rfl, p, rfl, hp, fun t1 a1 b1 H2 e2 nt1 na1 nb1 ab1 ht1 ha1 hb1 => ?_⟩
  refine ⟨_, _, 0, _, rfl, rfl, .of ht1, rfl, _, _, rfl, .inl (.of ha1), rfl, ?_⟩
  rw [vst_len, decide_eq_true rfl]
  exact k _ (e1.trans e2)
end
end K21
end

/-! K21W15 -/
section
set_option Elab.async false
set_option linter.all false
set_option maxRecDepth 100000
set_option maxHeartbeats 4000000
/-! what is reached -/
namespace K21
open PySem PySem.Spec PyProof.Rows L2
open Evl (Ex ex_l ex_t)
def pr2 (b : Nat × Nat × Nat) : List V := [.int (b.2.1 : Nat), .int (b.2.2 : Nat)]
def tr3 (e : Bf.Edge) : List V := [.int (e.1 : Nat), .int (e.2.1 : Nat), .int (e.2.2 : Nat)]
/-- bridges and costs -/
structure Rch (H0 H : Hp) (bl cd : Addr) (ys : List V) (bs : List (Nat × Nat × Nat)) (N : Nat) (f : Bf.Tab) : Prop where
  e : Ex H0 H
  b : H bl = some (.lst ys)
  t : Tups H ys (bs.map pr2)
  c : ∃ kvs, H cd = some (.dK kvs) ∧ KN kvs N ∧ CD H kvs f
theorem Rch.up {H0 H H' : Hp} {bl cd : Addr} {ys : List V} {bs : List (Nat × Nat × Nat)} {N : Nat} {f : Bf.Tab} (h : Rch H0 H bl cd ys bs N f) (e : Ex H H') : Rch H0 H' bl cd ys bs N f := by
  obtain ⟨kvs, h1, h2, h3⟩ := h.c
  exact ⟨h.e.trans e, e _ _ h.b, h.t.ex e, kvs, e _ _ h1, h2, h3.ex (.of e)⟩
theorem Rch.put {H0 H : Hp} {bl cd : Addr} {ys : List V} {bs : List (Nat × Nat × Nat)} {N v : Nat} {f : Bf.Tab} {kvs : List (Key × V)} {t : Addr} {k : Bf.Cost} (h : Rch H0 H bl cd ys bs N f) (h1 : H cd = some (.dK kvs)) (h2 : KN kvs N) (h3 : CD H kvs f) (n : H0 cd = none)
    (hv : v ≤ N) (ht : H t = some (.tup [.int (k.1 : Nat), .int (k.2 : Nat)])) : Rch H0 (upd H cd (.dK (putK kvs (.inl (v : Int)) (.ref t)))) bl cd ys bs N (Bf.put f v k) := by
  have tk := tup_upd (o := .dK (putK kvs (.inl (v : Int)) (.ref t))) h1 fun _ q => nomatch q
  exact ⟨ex_upd h.e n, at_ne h.b (fun q => by have := h.b; rw [q, h1] at this; cases this), h.t.mono tk, _, upd_same, h2.put hv _, (h3.put ht).ex tk⟩
def sp_law_reached (K : PySem.W.Frag) : Sp := fun vs H Q _ => ∃ (kl : Addr) (p : Pt) (ks : List Pt), vs = [.str p.txt, .ref kl] ∧ p.Ok ∧ H kl = some (.lst (vtx ks)) ∧ (∀ q ∈ ks, q.Ok) ∧ ks.length ≤ 16 ∧
  ∀ cd H' kvs, H cd = none → Ex H H' → H' cd = some (.dK kvs) → CD H' kvs (Bf.rnds (Bf.edges (brs p ks)) (2 * p.ls.length + 2)) → Q (.ref cd) H'
section
variable {P : Program} {w : World} {K : PySem.W.Frag} {mg : Str → Option Value} {base : Heap} {C CL : Addr}
-- _law_reached: 0:_law_path_here, 1:_law_kept, 2:_law_last, 3:_law_costs, 4:_law_bridges, 5:_law_word_here, 6:_law_far, 7:_law_i, 8:_law_turn_here, 9:_law_j, 10:_law_here, 11:_law_there, 12:_law_backs, 13:_law_cost  cells: _law_far _law_path_here _law_word_here
theorem sc_law_reached : FnScope ["_law_path_here", "_law_kept", "_law_last", "_law_costs", "_law_bridges", "_law_word_here", "_law_far", "_law_i", "_law_turn_here", "_law_j", "_law_here", "_law_there", "_law_backs", "_law_cost"] ["_law_path_here", "_law_kept"] (defScope s_law_reached) := ⟨rfl, rfl, rfl, by decide +kernel, rfl, by decide +kernel, by decide +kernel⟩
theorem ok_law_reached {f : Addr} {fd : FuncData} (F : FnP K "_law_reached" "_law_reached" s_law_reached f fd) (m : mg "_law_reached" = some (.ref f)) (T : Fx K mg)  (C_law_read : Cal P w K mg base "_law_read" 1 ["_law_x"] (sp_law_read K)) (C_law_fits : Cal P w K mg base "_law_fits" 2 ["_law_path_here", "_law_i", "_law_kept"] (sp_law_fits K)) : Cal P w K mg base "_law_reached" 3 ["_law_path_here", "_law_kept"] (sp_law_reached K) := by
  refine ⟨f, fd, ?_, m, F.kp, F.bindsN fun _ _ _ _ _ _ us hl => match us, hl with | [_, _], _ => rfl⟩
  refine F.ok sc_law_reached (fun vs H Q E h => by obtain ⟨kl, p, ks, rfl, hp, hk, ko, hz, k⟩ := h; rfl) (fun cdv A outer s H vs Q E hr h => ?_)
  obtain ⟨kl, p, ks, rfl, hp, hk, ko, hz, k⟩ := h
  have nd := sc_law_reached.nd
  have hu := hu_of hr
  refine ⟨_, PSs.nox (pss_cons (ps_par3 (i := 2) (j := 3) (l := 4) (by rfl) nd rfl rfl rfl (by decide) (by decide) (by decide) rfl rfl rfl (pa_cons (pe_callB call_len_seq (by rfl) T.n_len (by decide +kernel) (pa_cons (pe_ix ix_tup (pe_cal C_law_read (hr.mono (by decide)) (by rfl) (pa_cons (pv 0) pa_nil)) pe_int (fun _ _ => rfl)) pa_nil)) (pa_cons (pe_disp (pps_cons pe_int (pe_tup (pa_cons pe_int (pa_cons pe_int pa_nil))) pps_nil) (by rfl) (by rfl) (fun z => by cases z) (by decide)) (pa_cons (pe_lst pa_nil) pa_nil))) (by rfl)) -- _law_last, _law_costs, _law_bridges = (len(_law_read(_law_path_here)[0]), {0: (0, 0)}, [])
      (pss_cons (ps_for PassesOwn.never rfl (pi_list (pv 1)) (pg_name (i := 5) nd rfl (Or.inr rfl))
        (pss_cons (ps_set (i := 6) nd rfl (Or.inr rfl) (pe_callB call_len_seq (by rfl) T.n_len (by decide +kernel) (pa_cons (pe_ix ix_tup (pe_cal C_law_read (hr.mono (by decide)) (by rfl) (pa_cons (pv 5) pa_nil)) pe_int (fun _ _ => rfl)) pa_nil))) -- _law_far = len(_law_read(_law_word_here)[0])
        (pss_one (ps_expr (pe_bm PySem.F.plainAttrs_list PySem.F.slot_list_extend PySem.F.type_list_extend mt_extend (pv 4) (pa_cons (pe_lc (own := [("_law_i", 7)]) (g := (gName 7)) (by rfl) nd (pi_range1 (by rfl) T.n_range (pa_cons (pe_op op_add (pe_op op_sub (pv 2) (pv 6)) pe_int) pa_nil)) (blkOk_by (N := ["_law_path_here", "_law_kept", "_law_last", "_law_costs", "_law_bridges", "_law_word_here", "_law_far", "_law_i", "_law_turn_here", "_law_j", "_law_here", "_law_there", "_law_backs", "_law_cost"]) (sc := defScope s_law_reached) (own := [("_law_i", 7)]) (by decide +kernel)) (fun _ _ _ _ _ => (pg_name (i := 7) nd rfl (Or.inl rfl) (.inr rfl))) (fun _ _ _ _ _ => pts_one (pt_val (pe_cal C_law_fits (hr.mono (by decide)) (by rfl) (pa_cons (pv 0) (pa_cons (pv 7) (pa_cons (pv 5) pa_nil)))))) (fun _ _ _ _ _ => (pe_tup (pa_cons (pv 7) (pa_cons (pe_op op_add (pv 7) (pv 6)) pa_nil))))) pa_nil)))))) -- for _law_word_here in _law_kept:
      (pss_cons (ps_for PassesOwn.never rfl (pi_range1 (by rfl) T.n_range (pa_cons (pe_op op_add (pe_op op_mul pe_int (pv 2)) pe_int) pa_nil)) (pg_name (i := 8) nd rfl (Or.inl rfl))
        (pss_one (ps_for PassesOwn.never rfl (pi_list (pv 4)) (pg_tup rfl (pgs_cons (pg_name (i := 7) nd rfl (Or.inl rfl)) (pgs_cons (pg_name (i := 9) nd rfl (Or.inl rfl)) pgs_nil)))
          (pss_one (ps_for PassesOwn.never rfl (pi_list (pe_lst (pa_cons (pe_tup (pa_cons (pv 7) (pa_cons (pv 9) (pa_cons pe_int pa_nil)))) (pa_cons (pe_tup (pa_cons (pv 9) (pa_cons (pv 7) (pa_cons pe_int pa_nil)))) pa_nil)))) (pg_tup rfl (pgs_cons (pg_name (i := 10) nd rfl (Or.inl rfl)) (pgs_cons (pg_name (i := 11) nd rfl (Or.inl rfl)) (pgs_cons (pg_name (i := 12) nd rfl (Or.inl rfl)) pgs_nil))))
            (pss_one (ps_if (pt_cmp (pc_din hu (pv 10) (pv 3)))
              (pss_cons (ps_set (i := 13) nd rfl (Or.inl rfl) (pe_tup (pa_cons (pe_op op_add (pe_ix ix_tup (pe_dget hu (pv 3) (pv 10) (fun _ _ => rfl)) pe_int (fun _ _ => rfl)) (pv 12)) (pa_cons (pe_op op_add (pe_ix ix_tup (pe_dget hu (pv 3) (pv 10) (fun _ _ => rfl)) pe_int (fun _ _ => rfl)) pe_int) pa_nil)))) -- _law_cost = (_law_costs[_law_here][0] + _law_backs, _law_costs[_law_here][1] + 1)
              (pss_one (ps_dput hu (pv 3) (pv 11) (pe_callB (call_min2D rfl hr.units) (by rfl) T.n_min (by decide +kernel) (pa_cons (pe_lst (pa_cons (pe_dget2 hu (pv 3) (pv 11) (pv 13) ⟨rfl, rfl, rfl, rfl⟩) (pa_cons (pv 13) pa_nil))) pa_nil)) rfl)))
              pss_nil))))))) -- for _law_turn_here in range(2 * _law_last + 2):
      (pss_one (ps_ret (pv 3)))))), ?_⟩
  have l8 := hp.l8
  refine ⟨_, rfl, p, rfl, hp, fun t1 a1 b1 H1 e1 nt1 na1 nb1 ab1 ht1 ha1 hb1 => ⟨_, _, 0, _, rfl, rfl, .of ht1, rfl, _, _, rfl, .inl (.of ha1), ?_⟩⟩
  rw [vst_len]
  refine fun cd ncd => ⟨szk, fun t nt => ⟨at_new upd_same nt, [(.inl 0, .ref t)], rfl, by simp, szk, fun bl nbl => ⟨_, _, _, rfl, ?_⟩⟩⟩
  have E1 := ex_new (o := .tup [.int 0, .int 0]) (ex_new (o := .dK []) e1 ncd) nt
  have ht2 : upd (upd H1 cd (.dK [])) t (.tup [.int 0, .int 0]) t = some (.tup [.int 0, .int 0]) := upd_same
  have hc2 : upd (upd H1 cd (.dK [])) t (.tup [.int 0, .int 0]) cd = some (.dK []) := at_new upd_same nt
  have cd0 : H cd = none := fresh e1 ncd
  have E2 := ex_upd (o := .dK (mergeK [] [(.inl 0, .ref t)])) E1 cd0
  have ht3 := tup_upd (o := .dK (mergeK [] [(.inl 0, .ref t)])) hc2 (fun _ h => nomatch h) _ _ ht2
  have hc3 : upd (upd (upd H1 cd (.dK [])) t (.tup [.int 0, .int 0])) cd (.dK (mergeK [] [(.inl 0, .ref t)])) cd = some (.dK [(.inl 0, .ref t)]) := upd_same
  have bl0 : H bl = none := fresh E2 nbl
  have R0 : Rch H (upd (upd (upd (upd H1 cd (.dK [])) t (.tup [.int 0, .int 0])) cd (.dK (mergeK [] [(.inl 0, .ref t)]))) bl (.lst [])) bl cd [] [] p.ls.length Bf.t0 :=
    ⟨ex_new E2 nbl, upd_same, Tups.nil, _, at_new hc3 nbl, .zero _ _, .zero (at_new ht3 nbl)⟩
  refine ⟨_, rfl, kl, rfl, ⟨_, .of (R0.e _ _ hk)⟩, ?_⟩
  refine for_it walk_list (fun i σ H' => (∃ x5 x6 x8 x9 x10 x11 x12 x13, σ = [some (.str p.txt), some (.ref kl), some (.int (p.ls.length : Nat)), some (.ref cd), some (.ref bl), x5, x6, none, x8, x9, x10, x11, x12, x13]) ∧ ∃ ys, Rch H H' bl cd ys ((List.range i).flatMap fun j => brOne p (ks.getD j k0) j) p.ls.length Bf.t0)
    ⟨⟨_, _, _, _, _, _, _, _, rfl⟩, [], R0⟩ (fun i σ H' _ pv => by obtain ⟨_, ys, R⟩ := pv; exact .of (R.e _ _ hk)) ?_ ?_
  · rintro i v σ H0 H' hi ⟨⟨x5, x6, x8, x9, x10, x11, x12, x13, rfl⟩, ys, R⟩ ⟨rfl, hv⟩
    rw [vtx_len] at hi
    rw [vtx_get hi] at hv
    cases hv
    have hq := ko _ (List.getElem_mem hi)
    rw [brs_take, show ks.getD i k0 = ks[i] from getD_of (List.getElem?_eq_getElem hi)]
    have hl0 := brs_len (p := p) ks i
    generalize ks[i] = q at *
    have lq : 1 ≤ q.ls.length := List.length_pos_iff.mpr hq.ne
    have lq8 := hq.l8
    refine ⟨_, rfl, q, rfl, hq, fun t2 a2 b2 H3 e3 nt2 na2 nb2 ab2 ht2 ha2 hb2 => ⟨_, _, 0, _, rfl, rfl, .of ht2, rfl, _, _, rfl, .inl (.of ha2), ?_⟩⟩
    rw [vst_len]
    have R3 := R.up e3
    refine ⟨_, rfl, .inl ⟨rfl, _, .of R3.b⟩, _, rfl, _, rfl, _, _, rfl, rfl, _, _, rfl, rfl, _, rfl, by omega, by omega, fun D nD => lc_tups walk_r0 (fitB p q) (fun j => pr2 (i, j, j + q.ls.length)) (by omega) nD (fun _ _ => trivial) (fun j x H' H2 Fin Fn hj e6 ⟨eh, ex⟩ fy fn => ?_) fun H4 zs e6 hz4 hT => ?_⟩
    · subst eh ex
      refine ⟨rfl, _, rfl, _, rfl, _, rfl, p, q, j, rfl, hp, hq, by omega, fun H4 e7 => ⟨_, rfl, ?_⟩⟩
      cases hf : fitB p q j with
      | true => exact iteT ⟨_, rfl, _, rfl, _, rfl, _, _, rfl, rfl, szk, fun t nt => fy hf t _ (ex_new e7 nt) upd_same⟩
      | false => exact iteF (fn hf H4 e7)
    · have en : ((p.ls.length : Int) - (q.ls.length : Nat) + 1).toNat = p.ls.length + 1 - q.ls.length := by omega
      rw [en] at hT
      have R4 := R3.up e6
      have hzl := hT.1
      have hyl := R4.t.1
      rw [List.length_map] at hyl hzl
      have hfl := List.length_filter_le (fitB p q) (List.range (p.ls.length + 1 - q.ls.length))
      rw [List.length_range] at hfl
      have hm : i * (p.ls.length + 1) ≤ 16 * 9 := Nat.mul_le_mul (by omega) (by omega)
      refine ⟨bl, D, ys, zs, rfl, rfl, R4.b, hz4, sz3 (by omega), ?_⟩
      obtain ⟨kvs, c1, c2, c3⟩ := R4.c
      have tk := tup_upd (o := .lst (ys ++ zs)) R4.b fun _ h => nomatch h
      refine ⟨⟨_, _, _, _, _, _, _, _, rfl⟩, _, ex_upd R4.e bl0, upd_same, ?_, kvs, at_ne c1 (fun e => by have := R4.b; rw [← e, c1] at this; cases this), c2, c3.ex tk⟩
      refine Tups.mono ?_ tk
      rw [List.map_append]
      refine R4.t.app ?_
      rw [brOne, List.map_map]
      exact hT
  · rintro σ H' ⟨⟨x5, x6, x8, x9, x10, x11, x12, x13, rfl⟩, ys, R⟩
    rw [vtx_len] at R
    have R : Rch H H' bl cd ys (brs p ks) p.ls.length Bf.t0 := R
    have hbl := brs_len (p := p) ks ks.length
    have ok := br_ok (p := p) ko
    show tSeq _ _ _ _ _
    generalize hbs : brs p ks = bs at *
    refine ⟨_, rfl, _, _, rfl, rfl, .inl ⟨by decide, by decide⟩, _, _, rfl, rfl, _, rfl, by omega, by omega, ?_⟩
    rw [show ((2 : Int) * (p.ls.length : Nat) + 2).toNat = 2 * p.ls.length + 2 by omega]
    refine for_it walk_r0 (fun i σ H' => (∃ x5 x6 x7 x8 x9 x10 x11 x12 x13, σ = [some (.str p.txt), some (.ref kl), some (.int (p.ls.length : Nat)), some (.ref cd), some (.ref bl), x5, x6, x7, x8, x9, x10, x11, x12, x13]) ∧ Rch H H' bl cd ys bs p.ls.length (Bf.rnds (Bf.edges bs) i))
      ⟨⟨_, _, _, _, _, _, _, _, _, rfl⟩, R⟩ (fun _ _ _ _ _ => trivial) ?_ ?_
    · rintro i v σ H0 H2 hi ⟨⟨x5, x6, x7, x8, x9, x10, x11, x12, x13, rfl⟩, R⟩ ⟨rfl, rfl⟩
      refine ⟨_, rfl, bl, rfl, ⟨_, .of R.b⟩, ?_⟩
      refine for_it walk_list (fun j σ H' => (∃ x5 x6 x7 x8 x9 x10 x11 x12 x13, σ = [some (.str p.txt), some (.ref kl), some (.int (p.ls.length : Nat)), some (.ref cd), some (.ref bl), x5, x6, x7, x8, x9, x10, x11, x12, x13]) ∧ Rch H H' bl cd ys bs p.ls.length (Bf.rnd (Bf.edges (bs.take j)) (Bf.rnds (Bf.edges bs) i)))
        ⟨⟨_, _, _, _, _, _, _, _, _, rfl⟩, R⟩ (fun j σ H' _ pv => .of pv.2.b) ?_ ?_
      · rintro j v σ H0 H2 hj ⟨⟨x5, x6, x7, x8, x9, x10, x11, x12, x13, rfl⟩, R⟩ ⟨rfl, hv⟩
        have hjb : j < bs.length := by
          have := R.t.1
          rw [List.length_map] at this
          omega
        have hbj : bs[j]? = some bs[j] := List.getElem?_eq_getElem hjb
        obtain ⟨tt, rfl, htt⟩ := R.t.2 j v (pr2 bs[j]) hv (by rw [List.getElem?_map, hbj]; rfl)
        have hle := ok.le _ (List.getElem_mem hjb)
        have ee : Bf.edges (bs.take (j + 1)) = Bf.edges (bs.take j) ++ [(bs[j].2.1, bs[j].2.2, 0), (bs[j].2.2, bs[j].2.1, 1)] := by
          unfold Bf.edges
          rw [List.take_add_one, hbj, List.flatMap_append]
          simp
        rw [ee, Bf.rnd_append]
        generalize Bf.rnd (Bf.edges (bs.take j)) (Bf.rnds (Bf.edges bs) i) = g at *
        generalize bs[j] = b at *
        refine ⟨tt, _, rfl, .of htt, rfl, _, _, rfl, _, _, rfl, rfl, ?_⟩
        refine ⟨_, rfl, _, rfl, szk, fun ta nta => ⟨_, rfl, _, rfl, szk, fun tb ntb => ⟨szk, fun L nL => ⟨L, rfl, ⟨_, .of upd_same⟩, ?_⟩⟩⟩⟩
        have ea := Ex.new (o := .tup (tr3 (b.2.1, b.2.2, 0))) nta
        have eb := ex_new (o := .tup (tr3 (b.2.2, b.2.1, 1))) ea ntb
        have eL := ex_new (o := .lst [.ref ta, .ref tb]) eb nL
        refine for_it (walk_list (xs := [.ref ta, .ref tb])) (fun m σ H' => (∃ x5 x6 x7 x8 x9 x10 x11 x12 x13, σ = [some (.str p.txt), some (.ref kl), some (.int (p.ls.length : Nat)), some (.ref cd), some (.ref bl), x5, x6, x7, x8, x9, x10, x11, x12, x13]) ∧ Rch H H' bl cd ys bs p.ls.length (Bf.rnd (([(b.2.1, b.2.2, 0), (b.2.2, b.2.1, 1)] : List Bf.Edge).take m) g) ∧ H' L = some (.lst [.ref ta, .ref tb]) ∧
            H' ta = some (.tup (tr3 (b.2.1, b.2.2, 0))) ∧ H' tb = some (.tup (tr3 (b.2.2, b.2.1, 1))))
          ⟨⟨_, _, _, _, _, _, _, _, _, rfl⟩, R.up eL, upd_same, at_new (at_new upd_same ntb) nL, at_new upd_same nL⟩ (fun m σ H' _ pv => .of pv.2.2.1) ?_ ?_
        · rintro m x σ H0 H2 hm ⟨⟨x5, x6, x7, x8, x9, x10, x11, x12, x13, rfl⟩, R, hL, hA, hB⟩ ⟨rfl, hx⟩
          obtain ⟨e, tq, he, rfl, htq, le1, le2⟩ : ∃ (e : Bf.Edge) (tq : Addr), ([(b.2.1, b.2.2, 0), (b.2.2, b.2.1, 1)] : List Bf.Edge)[m]? = some e ∧ x = .ref tq ∧ H2 tq = some (.tup (tr3 e)) ∧ e.1 ≤ p.ls.length ∧ e.2.1 ≤ p.ls.length := by
            match m, hm, hx with
            | 0, _, hx =>
              cases hx
              exact ⟨_, ta, rfl, rfl, hA, hle.1, hle.2⟩
            | 1, _, hx =>
              cases hx
              exact ⟨_, tb, rfl, rfl, hB, hle.2, hle.1⟩
          rw [Bf.rnd, fold_take _ _ he, ← Bf.rnd]
          generalize Bf.rnd (([(b.2.1, b.2.2, 0), (b.2.2, b.2.1, 1)] : List Bf.Edge).take m) g = f0 at *
          refine ⟨tq, _, rfl, .of htq, rfl, _, _, rfl, _, _, rfl, _, _, rfl, rfl, ?_⟩
          obtain ⟨kvs, c1, c2, c3⟩ := R.c
          refine ⟨_, rfl, _, rfl, cd, _, rfl, .k (k := .inl (e.1 : Int)) c1, ?_⟩
          rcases c3 e.1 with ⟨q1, q2⟩ | ⟨a, t9, q1, q2, q3⟩
          · rw [q2, rl_none f0 _ _ _ q1]
            exact ⟨_, rfl, iteF ⟨⟨_, _, _, _, _, _, _, _, _, rfl⟩, R, hL, hA, hB⟩⟩
          have hd : DGet H2 cd (.int (e.1 : Nat)) (some (.ref t9)) := by
            rw [← q2]
            exact .k (k := .inl (e.1 : Int)) c1
          rw [q2, rl_min f0 _ _ _ q1]
          refine ⟨_, rfl, iteT ⟨_, rfl, _, rfl, cd, _, rfl, hd, _, _, 0, _, rfl, rfl, .of q3, rfl, _, rfl, _, _, rfl, rfl, _, rfl, _, rfl, cd, _, rfl, hd, _, _, 1, _, rfl, rfl, .of q3, rfl, _, _, rfl, rfl, szk, fun np nnp => ?_⟩⟩
          have hnp : upd H2 np (.tup [.int ((Bf.stp a e.2.2).1 : Nat), .int ((Bf.stp a e.2.2).2 : Nat)]) np = some (.tup [.int ((Bf.stp a e.2.2).1 : Nat), .int ((Bf.stp a e.2.2).2 : Nat)]) := upd_same
          have en : Ex H2 (upd H2 np (.tup [.int ((Bf.stp a e.2.2).1 : Nat), .int ((Bf.stp a e.2.2).2 : Nat)])) := Ex.new nnp
          have c1' := en _ _ c1
          refine ⟨_, rfl, cd, rfl, .inl ⟨_, .inl c1'⟩, _, rfl, _, rfl, _, .k (k := .inl (e.2.1 : Int)) c1', ?_⟩
          have hlen := c2.len
          have fin : ∀ {H3 : Hp} {tr : Addr} {kk : Bf.Cost}, Ex H2 H3 → H3 tr = some (.tup [.int (kk.1 : Nat), .int (kk.2 : Nat)]) → Rch H (upd H3 cd (.dK (putK kvs (.inl (e.2.1 : Int)) (.ref tr)))) bl cd ys bs p.ls.length (Bf.put f0 e.2.1 kk) ∧
              upd H3 cd (.dK (putK kvs (.inl (e.2.1 : Int)) (.ref tr))) L = some (.lst [.ref ta, .ref tb]) ∧ upd H3 cd (.dK (putK kvs (.inl (e.2.1 : Int)) (.ref tr))) ta = some (.tup (tr3 (b.2.1, b.2.2, 0))) ∧ upd H3 cd (.dK (putK kvs (.inl (e.2.1 : Int)) (.ref tr))) tb = some (.tup (tr3 (b.2.2, b.2.1, 1))) := fun {H3 tr kk} e3 h3 => by
            have tk := tup_upd (o := .dK (putK kvs (.inl (e.2.1 : Int)) (.ref tr))) (e3 _ _ c1) fun _ h => nomatch h
            exact ⟨(R.up e3).put (e3 _ _ c1) c2 (c3.ex (.of e3)) cd0 le2 h3, at_ne (e3 _ _ hL) (fun q => by rw [q, c1] at hL; cases hL), tk _ _ (e3 _ _ hA), tk _ _ (e3 _ _ hB)⟩
          rcases c3 e.2.1 with ⟨r1, r2⟩ | ⟨b', t8, r1, r2, r3⟩
          · rw [r2, r1]
            refine ⟨_, rfl, szk, fun L2 nL2 => ⟨L2, _, _, costD (Bf.stp a e.2.2), costD (Bf.stp a e.2.2), rfl, .of upd_same, costD_dp (at_new hnp nL2), costD_dp (at_new hnp nL2), costD_alike _ _, costD_depth _ _, ?_⟩⟩
            have e5 := ex_new (o := .lst [.ref np, .ref np]) en nL2
            rw [costD_lt, show Bf.clt (Bf.stp a e.2.2) (Bf.stp a e.2.2) = false from decide_eq_false (by omega), if_neg Bool.false_ne_true]
            refine ⟨_, rfl, _, rfl, cd, _, rfl, .k (k := .inl (e.2.1 : Int)) (e5 _ _ c1) (small_len (by omega)), ?_⟩
            exact ⟨⟨_, _, _, _, _, _, _, _, _, rfl⟩, fin e5 (at_new hnp nL2)⟩
          · rw [r2, r1]
            refine ⟨_, rfl, szk, fun L2 nL2 => ⟨L2, _, _, costD b', costD (Bf.stp a e.2.2), rfl, .of upd_same, costD_dp (at_new (en _ _ r3) nL2), costD_dp (at_new hnp nL2), costD_alike _ _, costD_depth _ _, ?_⟩⟩
            have e5 := ex_new (o := .lst [.ref t8, .ref np]) en nL2
            rw [costD_lt]
            by_cases hc : Bf.clt (Bf.stp a e.2.2) b' = true
            · simp only [if_pos hc]
              refine ⟨_, rfl, _, rfl, cd, _, rfl, .k (k := .inl (e.2.1 : Int)) (e5 _ _ c1) (small_len (by omega)), ?_⟩
              have q := fin e5 (at_new hnp nL2)
              exact ⟨⟨_, _, _, _, _, _, _, _, _, rfl⟩, q⟩
            · simp only [if_neg hc]
              refine ⟨_, rfl, _, rfl, cd, _, rfl, .k (k := .inl (e.2.1 : Int)) (e5 _ _ c1) (small_len (by omega)), ?_⟩
              have q := fin e5 (e5 _ _ r3)
              exact ⟨⟨_, _, _, _, _, _, _, _, _, rfl⟩, q⟩
        · rintro σ H3 ⟨⟨x5, x6, x7, x8, x9, x10, x11, x12, x13, rfl⟩, R, _⟩
          exact ⟨⟨_, _, _, _, _, _, _, _, _, rfl⟩, R⟩
      · rintro σ H3 ⟨⟨x5, x6, x7, x8, x9, x10, x11, x12, x13, rfl⟩, R⟩
        rw [R.t.1, List.length_map, List.take_length] at R
        exact ⟨⟨_, _, _, _, _, _, _, _, _, rfl⟩, R⟩
    · rintro σ H2 ⟨⟨x5, x6, x7, x8, x9, x10, x11, x12, x13, rfl⟩, R⟩
      obtain ⟨kvs, c1, c2, c3⟩ := R.c
      exact ⟨_, rfl, k cd H2 kvs cd0 R.e c1 c3⟩
end
end K21
end

/-! K21W16 -/
section
set_option Elab.async false
set_option linter.all false
set_option maxRecDepth 100000
set_option maxHeartbeats 4000000
/-! words and marks that are drawn -/
namespace K21
open PySem PySem.Spec PyProof.Rows L2
open Evl (Ex ex_l ex_t)
theorem SAt.st {H : Hp} {st c : Addr} (h : SAt H st c) : H st ≠ none := by
  obtain ⟨ms, i, s, b, h1, _⟩ := h
  rw [h1]
  exact fun h => nomatch h
theorem SAt.cc {H : Hp} {st c : Addr} (h : SAt H st c) : H c ≠ none := by
  obtain ⟨ms, i, s, b, h1, h2, _⟩ := h
  rw [h2]
  exact fun h => nomatch h
theorem SAt.ne {H : Hp} {st c D : Addr} (h : SAt H st c) (hD : H D = none) : D ≠ st := fun e => h.st (by rw [← e]; exact hD)
theorem SAt.nc {H : Hp} {st c D : Addr} (h : SAt H st c) (hD : H D = none) : D ≠ c := fun e => h.cc (by rw [← e]; exact hD)
theorem SAt.set {H : Hp} {st c D : Addr} {o : HO} (h : SAt H st c) (n1 : D ≠ st) (n2 : D ≠ c) : SAt (upd H D o) st c := by
  obtain ⟨ms, i, s, b, h1, h2, h3⟩ := h
  exact ⟨ms, i, s, b, at_ne h1 n1.symm, at_ne h2 n2.symm, h3⟩
theorem SAt.not_str {H : Hp} {st c a : Addr} {xs : List V} (h : SAt H st c) (ha : H a = some (.lst xs)) (hx : ∀ x ∈ xs, ∃ z, x = .str z) : a ≠ st := fun e => by
  obtain ⟨ms, i, s, b, h1, _⟩ := h
  rw [e, h1] at ha
  cases ha
  obtain ⟨z, hz⟩ := hx _ List.mem_cons_self
  cases hz
theorem Fs.set {st D : Addr} {H H' : Hp} {o : HO} (f : Fs st H H') (n : H D = none) : Fs st H (upd H' D o) := fun a u h m => at_ne (f a u h m) (ne_of_none h n)
/-- a comprehension whose tests draw: some of the elements -/
theorem lc_st {J : It} {n : Nat} {G : Hp → Prop} {Y : Nat → Hp → V → Hp → Prop} (w : Walk J n G Y) {g : TG} {tt : TT} {te : TE} {vs : List Nat} {σ : St} {H1 : Hp} {D : Addr} {Qd : Hp → Prop} {st c : Addr} (vf : Nat → V) (hS : SAt H1 st c) (hz : n ≤ 1000) (hD : H1 D = none)
    (hG : ∀ H', Fs st H1 H' → G H')
    (turn : ∀ (i : Nat) (x : V) (H' H2 : Hp) (Fin : V → Hp → Prop) (Fn : Hp → Prop), i < n → Fs st H1 H' → SAt H' st c → Y i H' x H2 → (∀ H4, Fs st H' H4 → SAt H4 st c → Fin (vf i) H4) → (∀ H4, Fs st H' H4 → SAt H4 st c → Fn H4) →
      g x (wipe σ vs) H2 fun σ2 H2 => wipe σ2 vs = wipe σ vs ∧ tt σ2 H2 fun b H3 => if b = true then te σ2 H3 Fin else Fn H3)
    (done : ∀ H' ys, Fs st H1 H' → SAt H' st c → H' D = some (.lst ys) → ys.Sublist ((List.range n).map vf) → Qd H') :
    ∃ W : Nat → Nat → Hp → Prop, (∃ m, W 0 m (upd H1 D (.lst []))) ∧ ∀ i m H, W i m H →
      (J.stop i H ∧ Qd H) ∨ (J.go i H ∧ ∃ Nx : Hp → Prop, (∀ H', Nx H' → ∃ m', m' < m ∧ W (i + 1) m' H') ∧ ∀ x H', J.yld i H x H' → g x (wipe σ vs) H' fun σ2 H2 => wipe σ2 vs = wipe σ vs ∧ tt σ2 H2 fun b H3 =>
        if b = true then te σ2 H3 fun y H4 => ∃ acc, H4 D = some (.lst acc) ∧ acc.length < sizeLine ∧ Nx (upd H4 D (.lst (acc ++ [y]))) else Nx H3) := by
  have d1 := hS.ne hD
  have d2 := hS.nc hD
  refine lc_it w (fun i H' => Fs st H1 H' ∧ SAt H' st c ∧ ∃ ys, H' D = some (.lst ys) ∧ ys.length ≤ i ∧ ys.Sublist ((List.range i).map vf)) ⟨.of (Ex.new hD), hS.set d1 d2, [], upd_same, Nat.le_refl _, List.Sublist.slnil⟩ (fun i H' _ p => hG H' p.1)
    (fun i x H' H2 hi ⟨f, s, ys, hy, hl, hs⟩ y => turn i x H' H2 _ _ hi f s y (fun H4 f4 s4 => ?_) (fun H4 f4 s4 => ?_)) (fun H' ⟨f, s, ys, hy, _, hs⟩ => done H' ys f s hy hs)
  · have hy4 := f4 D _ hy d1
    refine ⟨ys, hy4, small_len (by omega), (f.trans f4).set hD, s4.set d1 d2, ys ++ [vf i], upd_same, by rw [List.length_append]; exact Nat.succ_le_succ hl, ?_⟩
    rw [List.range_succ, List.map_append]
    exact hs.append (List.Sublist.refl _)
  · refine ⟨f.trans f4, s4, ys, f4 D _ hy d1, Nat.le_succ_of_le hl, hs.trans ?_⟩
    rw [List.range_succ, List.map_append]
    exact List.sublist_append_left _ _
theorem sub_vst {ys : List V} {m : List Nat} (h : ys.Sublist ((List.range m.length).map fun i => sg (m.getD i 0))) : ∃ m', m'.Sublist m ∧ ys = vst m' := by
  have e : (List.range m.length).map (fun i => sg (m.getD i 0)) = m.map sg := by
    conv => rhs; rw [← range_get 0 m, List.map_map]
    rfl
  rw [e] at h
  obtain ⟨l, h1, h2⟩ := List.sublist_map_iff.mp h
  exact ⟨l, h1, h2⟩
theorem iteNS {x : V} {A B : Prop} (h : B) : if (!decide (x = x)) = true then A else B := by
  rw [decide_eq_true rfl]
  exact iteF h
def sp_law_fewer (K : PySem.W.Frag) : Sp := fun vs H Q _ => ∃ (st c : Addr) (m : List Nat), vs = [.ref st, .str (S m)] ∧ m.length ≤ 100 ∧ SAt H st c ∧ ∀ H' m', Fs st H H' → SAt H' st c → m'.Sublist m → Q (.str (S m')) H'
def sp_law_word (K : PySem.W.Frag) : Sp := fun vs H Q _ => ∃ (st c : Addr) (ls : List Nat) (n : Nat), vs = [.ref st, .str "any", .str (S ls), .int (n : Nat)] ∧ 1 ≤ n ∧ n ≤ 8 ∧ ls ≠ [] ∧ ls.length ≤ 26 ∧ SAt H st c ∧
  ∀ H' wd, Fs st H H' → SAt H' st c → wd ≠ [] → wd.length ≤ n → (∀ x ∈ wd, x ∈ ls) → Q (.str (S wd)) H'
section
variable {P : Program} {w : World} {K : PySem.W.Frag} {mg : Str → Option Value} {base : Heap} {C CL : Addr}
-- _law_fewer: 0:_law_state, 1:_law_mark, 2:_law_d  cells: _law_state
theorem sc_law_fewer : FnScope ["_law_state", "_law_mark", "_law_d"] ["_law_state", "_law_mark"] (defScope s_law_fewer) := ⟨rfl, rfl, rfl, by decide +kernel, rfl, by decide +kernel, by decide +kernel⟩
theorem ok_law_fewer {f : Addr} {fd : FuncData} (F : FnP K "_law_fewer" "_law_fewer" s_law_fewer f fd) (m : mg "_law_fewer" = some (.ref f)) (T : Fx K mg)  (C_law_take : Cal P w K mg base "_law_take" 2 ["_law_state", "_law_many"] (sp_law_take K)) : Cal P w K mg base "_law_fewer" 3 ["_law_state", "_law_mark"] (sp_law_fewer K) := by
  refine ⟨f, fd, ?_, m, F.kp, F.bindsN fun _ _ _ _ _ _ us hl => match us, hl with | [_, _], _ => rfl⟩
  refine F.ok sc_law_fewer (fun vs H Q E h => by obtain ⟨st, c, m, rfl, hz, hS, k⟩ := h; rfl) (fun cdv A outer s H vs Q E hr h => ?_)
  obtain ⟨st, c, m, rfl, hz, hS, k⟩ := h
  have nd := sc_law_fewer.nd
  have hu := hu_of hr
  refine ⟨_, PSs.nox (pss_one (ps_ret (pe_join pe_str (pe_lc (own := [("_law_d", 2)]) (g := (gName 2)) (by rfl) nd (pi_str (pv 1)) (blkOk_by (N := ["_law_state", "_law_mark", "_law_d"]) (sc := defScope s_law_fewer) (own := [("_law_d", 2)]) (by decide +kernel)) (fun _ _ _ _ _ => (pg_name (i := 2) nd rfl (Or.inl rfl) (.inr rfl))) (fun _ _ _ _ _ => pts_one (pt_cmpR op_gt (pe_cal C_law_take (hr.mono (by decide)) (by rfl) (pa_cons (pv 0) (pa_cons pe_int pa_nil))) pe_int (nomark _))) (fun _ _ _ _ _ => (pv 2))) : PE _ _ (tM1 (rJn K) _ _)))), ?_⟩
  refine ⟨⟨_, rfl⟩, _, rfl, _, rfl, fun D nD => lc_st walk_str (fun i => sg (m.getD i 0)) hS (by rw [S_size]; omega) nD (fun _ _ => trivial) (fun i x H' H2 Fin Fn hi f s ⟨eh, ch, hx, ex⟩ fy fn => ?_) fun H' ys f s hy hs => ?_⟩
  · subst eh ex
    rw [S_get] at hx
    rw [getD_of hx] at fy
    refine ⟨rfl, _, rfl, st, c, 3, rfl, by decide, by decide, s, fun H4 d f4 s4 hd => ⟨_, _, rfl, rfl, _, rfl, ite2 (fun _ => ⟨_, rfl, fy H4 f4 s4⟩) fun _ => fn H4 f4 s4⟩⟩
  · rw [S_size] at hs
    obtain ⟨m', h1, rfl⟩ := sub_vst hs
    refine rJn_vst (.of hy) (Nat.le_trans h1.length_le (by omega)) (k H' m' f s h1)
-- _law_word: 0:_law_state, 1:_law_manner, 2:_law_letters, 3:_law_many, 4:_law_found, 5:_law_k, 6:_law_step
theorem sc_law_word : FnScope ["_law_state", "_law_manner", "_law_letters", "_law_many", "_law_found", "_law_k", "_law_step"] ["_law_state", "_law_manner", "_law_letters", "_law_many"] (defScope s_law_word) := ⟨rfl, rfl, rfl, by decide +kernel, rfl, by decide +kernel, by decide +kernel⟩
theorem ok_law_word {f : Addr} {fd : FuncData} (F : FnP K "_law_word" "_law_word" s_law_word f fd) (m : mg "_law_word" = some (.ref f)) (T : Fx K mg)  (C_law_one : Cal P w K mg base "_law_one" 3 ["_law_state", "_law_things"] (sp_law_one K)) (C_law_take : Cal P w K mg base "_law_take" 2 ["_law_state", "_law_many"] (sp_law_take K)) : Cal P w K mg base "_law_word" 4 ["_law_state", "_law_manner", "_law_letters", "_law_many"] (sp_law_word K) := by
  refine ⟨f, fd, ?_, m, F.kp, F.bindsN fun _ _ _ _ _ _ us hl => match us, hl with | [_, _, _, _], _ => rfl⟩
  refine F.ok sc_law_word (fun vs H Q E h => by obtain ⟨st, c, ls, n, rfl, h1, h2, hls, hlz, hS, k⟩ := h; rfl) (fun cdv A outer s H vs Q E hr h => ?_)
  obtain ⟨st, c, ls, n, rfl, h1, h2, hls, hlz, hS, k⟩ := h
  have nd := sc_law_word.nd
  have hu := hu_of hr
  refine ⟨_, PSs.nox (pss_cons (ps_set (i := 4) nd rfl (Or.inl rfl) pe_str) -- _law_found = ''
      (pss_cons (ps_for PassesOwn.never rfl (pi_range1 (by rfl) T.n_range (pa_cons (pe_op op_add pe_int (pe_cal C_law_take (hr.mono (by decide)) (by rfl) (pa_cons (pv 0) (pa_cons (pv 3) pa_nil)))) pa_nil)) (pg_name (i := 5) nd rfl (Or.inl rfl))
        (pss_cons (ps_set (i := 6) nd rfl (Or.inl rfl) (pe_cal C_law_one (hr.mono (by decide)) (by rfl) (pa_cons (pv 0) (pa_cons (pe_callTy (call_listS rfl) (by rfl) T.n_list (by decide +kernel) (pa_cons (pv 2) pa_nil)) pa_nil)))) -- _law_step = _law_one(_law_state, list(_law_letters))
        (pss_one (ps_aug (i := 4) nd rfl (Or.inl rfl) (pe_ifExp (PW.pt (pw_and (pt_cmpR op_ne (pv 1) pe_str (nomark _)) (pw_and1 (pt_cmpR op_eq (pe_cal C_law_take (hr.mono (by decide)) (by rfl) (pa_cons (pv 0) (pa_cons pe_int pa_nil))) pe_int (nomark _))))) (pe_upper (pv 6)) (pv 6)) ip_addS)))) -- for _law_k in range(1 + _law_take(_law_state, _law_many)):
      (pss_one (ps_ret (pv 4))))), ?_⟩
  refine ⟨_, rfl, _, rfl, st, c, n, rfl, h1, by omega, hS, fun H1 d f1 s1 hd => ⟨_, _, rfl, rfl, _, rfl, by omega, by omega, ?_⟩⟩
  rw [show ((1 : Int) + (d : Nat)).toNat = d + 1 by omega]
  refine for_it walk_r0 (fun i σ H' => Fs st H H' ∧ SAt H' st c ∧ ∃ wd x1 x2, σ = [some (.ref st), some (.str "any"), some (.str (S ls)), some (.int (n : Nat)), some (.str (S wd)), x1, x2] ∧ wd.length = i ∧ ∀ x ∈ wd, x ∈ ls)
    ⟨f1, s1, [], _, _, by rw [S_nil]; rfl, rfl, fun _ h => nomatch h⟩ (fun _ _ _ _ _ => trivial) ?_ ?_
  · rintro i v σ H0 H' hi ⟨f, s, wd, x1, x2, rfl, hl, hw⟩ ⟨rfl, rfl⟩
    refine ⟨_, rfl, _, rfl, _, rfl, by rw [S_size]; exact sz3 (by omega), fun l nl => ?_⟩
    have hne : l ≠ st := s.ne nl
    have hv : upd H' l (.lst ((S ls).cps.toList.map fun c => V.str ⟨#[c]⟩)) l = some (.lst (vst ls)) := by rw [upd_same, S_cps]; rfl
    refine ⟨st, c, l, vst ls, rfl, s.set hne (s.nc nl), hv, hne, fun e => hls (List.map_eq_nil_iff.mp e), by rw [vst_len]; omega, fun H2 z f2 s2 hz => ?_⟩
    obtain ⟨x, hx, rfl⟩ := List.mem_map.mp hz
    refine ⟨_, rfl, _, rfl, rfl, _, rfl, iteNS (iteF ⟨_, rfl, _, _, rfl, rfl, ?_, ?_⟩)⟩
    · exact sz3 (by rw [S_len]; show _ + 1 ≤ _; omega)
    · refine ⟨(f.trans (.of (Ex.new nl))).trans f2, s2, wd ++ [x], _, _, by rw [S_one, S_app]; rfl, by rw [List.length_append, hl]; rfl, fun y hy => ?_⟩
      rcases List.mem_append.mp hy with h | h
      · exact hw y h
      · rw [List.mem_singleton.mp h]
        exact hx
  · rintro σ H' ⟨f, s, wd, x1, x2, rfl, hl, hw⟩
    exact ⟨_, rfl, k H' wd f s (fun e => by rw [e] at hl; cases hl) (by omega) hw⟩
end
end K21
end

/-! K21W17 -/
section
set_option Elab.async false
set_option linter.all false
set_option maxRecDepth 100000
set_option maxHeartbeats 4000000
/-! paths that are drawn -/
namespace K21
open PySem PySem.Spec PyProof.Rows L2
open Evl (Ex ex_l ex_t)
theorem rend_snoc : ∀ (ls : List Nat) (ms : List (List Nat)) (l : Nat) (m : List Nat), ms.length = ls.length + 1 → rend (ls ++ [l]) (ms ++ [m]) = rend ls ms ++ l :: m
  | [], [x], l, m, _ => rfl
  | y :: ls, x :: ms, l, m, h => by
    have h' : ms.length = ls.length + 1 := by simpa using h
    show x ++ y :: rend (ls ++ [l]) (ms ++ [m]) = (x ++ y :: rend ls ms) ++ l :: m
    rw [rend_snoc ls ms l m h']
    simp
theorem rend_plain : ∀ ls : List Nat, rend ls (List.replicate (ls.length + 1) []) = ls
  | [] => rfl
  | l :: ls => by
    show [] ++ l :: rend ls (List.replicate (ls.length + 1) []) = l :: ls
    rw [rend_plain ls]
    rfl
/-- kinds that may stand at a place -/
def Mok (m : List Nat) : Prop := (∀ d ∈ m, 48 ≤ d ∧ d ≤ 57) ∧ m.Pairwise (· < ·) ∧ m.length ≤ 10
theorem Mok.sub {m k : List Nat} (h : Mok m) (s : k.Sublist m) : Mok k := ⟨fun d hd => h.1 d (s.subset hd), h.2.1.sublist s, Nat.le_trans s.length_le h.2.2⟩
theorem Mok.nil : Mok [] := ⟨(fun _ h => nomatch h), List.Pairwise.nil, Nat.zero_le _⟩
theorem pt_of {ls : List Nat} {ms : List (List Nat)} (ne : ls ≠ []) (sm : ∀ c ∈ ls, 97 ≤ c ∧ c ≤ 122) (l8 : ls.length ≤ 8) (len : ms.length = ls.length + 1) (ok : ∀ m ∈ ms, Mok m) : (⟨ls, ms⟩ : Pt).Ok :=
  ⟨ne, sm, len, fun m hm => (ok m hm).1, fun m hm => (ok m hm).2.1, l8, fun m hm => (ok m hm).2.2⟩
def preR (wd : List Nat) (ms : List (List Nat)) : Nat → List Nat
  | 0 => []
  | i + 1 => rend (wd.take i) ms
def sp_law_marked (K : PySem.W.Frag) : Sp := fun vs H Q _ => ∃ (st c : Addr) (wd dg : List Nat) (n : Nat), vs = [.ref st, .str (S wd), .str (S dg), .int (n : Nat)] ∧ wd ≠ [] ∧ (∀ c ∈ wd, 97 ≤ c ∧ c ≤ 122) ∧ wd.length ≤ 8 ∧ Mok dg ∧ SAt H st c ∧
  ∀ (H' : Hp) (p : Pt), Fs st H H' → SAt H' st c → p.Ok → Q (.str p.txt) H'
def sp_law_path (K : PySem.W.Frag) : Sp := fun vs H Q _ => ∃ (st c : Addr) (ls : List Nat) (n : Nat), vs = [.ref st, .str "any", .str (S ls), .int (n : Nat)] ∧ 1 ≤ n ∧ n ≤ 8 ∧ ls ≠ [] ∧ ls.length ≤ 26 ∧ (∀ c ∈ ls, 97 ≤ c ∧ c ≤ 122) ∧ SAt H st c ∧
  ∀ (H' : Hp) (p : Pt), Fs st H H' → SAt H' st c → p.Ok → Q (.str p.txt) H'
section
variable {P : Program} {w : World} {K : PySem.W.Frag} {mg : Str → Option Value} {base : Heap} {C CL : Addr}
-- _law_marked: 0:_law_state, 1:_law_word_here, 2:_law_digits, 3:_law_most, 4:_law_found, 5:_law_left, 6:_law_sign, 7:_law_mark, 8:_law_d  cells: _law_state
theorem sc_law_marked : FnScope ["_law_state", "_law_word_here", "_law_digits", "_law_most", "_law_found", "_law_left", "_law_sign", "_law_mark", "_law_d"] ["_law_state", "_law_word_here", "_law_digits", "_law_most"] (defScope s_law_marked) := ⟨rfl, rfl, rfl, by decide +kernel, rfl, by decide +kernel, by decide +kernel⟩
theorem ok_law_marked {f : Addr} {fd : FuncData} (F : FnP K "_law_marked" "_law_marked" s_law_marked f fd) (m : mg "_law_marked" = some (.ref f)) (T : Fx K mg)  (C_law_take : Cal P w K mg base "_law_take" 2 ["_law_state", "_law_many"] (sp_law_take K)) : Cal P w K mg base "_law_marked" 3 ["_law_state", "_law_word_here", "_law_digits", "_law_most"] (sp_law_marked K) := by
  refine ⟨f, fd, ?_, m, F.kp, F.bindsN fun _ _ _ _ _ _ us hl => match us, hl with | [_, _, _, _], _ => rfl⟩
  refine F.ok sc_law_marked (fun vs H Q E h => by obtain ⟨st, c, wd, dg, n, rfl, hw, sm, l8, hdg, hS, k⟩ := h; rfl) (fun cdv A outer s H vs Q E hr h => ?_)
  obtain ⟨st, c, wd, dg, n, rfl, hw, sm, l8, hdg, hS, k⟩ := h
  have nd := sc_law_marked.nd
  have hu := hu_of hr
  refine ⟨_, PSs.nox (pss_cons (ps_par (i := 4) (j := 5) (by rfl) nd rfl rfl (by decide) rfl rfl (pa_cons pe_str (pa_cons (pv 3) pa_nil)) (by rfl)) -- _law_found, _law_left = ('', _law_most)
      (pss_cons (ps_for PassesOwn.never rfl (pi_list (pe_op op_cat (pe_lst (pa_cons pe_str pa_nil)) (pe_callTy (call_listS rfl) (by rfl) T.n_list (by decide +kernel) (pa_cons (pv 1) pa_nil)))) (pg_name (i := 6) nd rfl (Or.inl rfl))
        (pss_cons (ps_set (i := 7) nd rfl (Or.inl rfl) (pe_slice sl_str (pe_join pe_str (pe_lc (own := [("_law_d", 8)]) (g := (gName 8)) (by rfl) nd (pi_str (pv 2)) (blkOk_by (N := ["_law_state", "_law_word_here", "_law_digits", "_law_most", "_law_found", "_law_left", "_law_sign", "_law_mark", "_law_d"]) (sc := defScope s_law_marked) (own := [("_law_d", 8)]) (by decide +kernel)) (fun _ _ _ _ _ => (pg_name (i := 8) nd rfl (Or.inl rfl) (.inr rfl))) (fun _ _ _ _ _ => pts_one (pt_cmpR op_eq (pe_cal C_law_take (hr.mono (by decide)) (by rfl) (pa_cons (pv 0) (pa_cons pe_int pa_nil))) pe_int (nomark _))) (fun _ _ _ _ _ => (pv 8))) : PE _ _ (tM1 (rJn K) _ _)) po_none (po_some (pv 5)))) -- _law_mark = ''.join([_law_d for _law_d in _law_digits if _law_take(_law_state, 3) == 0])[:_law_left]
        (pss_one (ps_par (i := 4) (j := 5) (by rfl) nd rfl rfl (by decide) rfl rfl (pa_cons (pe_op op_add_str (pe_op op_add_str (pv 4) (pv 6)) (pv 7)) (pa_cons (pe_op op_sub (pv 5) (pe_callB call_len_str (by rfl) T.n_len (by decide +kernel) (pa_cons (pv 7) pa_nil))) pa_nil)) (by rfl))))) -- for _law_sign in [''] + list(_law_word_here):
      (pss_one (ps_ret (pv 4))))), ?_⟩
  refine ⟨_, rfl, _, _, rfl, ?_⟩
  refine ⟨szk, fun l1 nl1 => ⟨_, rfl, _, rfl, by rw [S_size]; exact sz3 (by omega), fun l2 nl2 => ⟨l1, l2, _, _, rfl, rfl, at_new upd_same nl2, upd_same, ?_, fun L nL => ⟨L, rfl, ⟨_, .of upd_same⟩, ?_⟩⟩⟩⟩
  · rw [S_cps, List.length_map]
    exact sz3 (by show 1 + wd.length ≤ _; omega)
  have e1 : Ex H (upd (upd H l1 (.lst [.str ""])) l2 (.lst ((S wd).cps.toList.map fun c => V.str ⟨#[c]⟩))) := ex_new (Ex.new nl1) nl2
  have e2 := ex_new (o := .lst ([.str ""] ++ (S wd).cps.toList.map fun c => V.str ⟨#[c]⟩)) e1 nL
  have hL : upd (upd (upd H l1 (.lst [.str ""])) l2 (.lst ((S wd).cps.toList.map fun c => V.str ⟨#[c]⟩))) L (.lst ([.str ""] ++ (S wd).cps.toList.map fun c => V.str ⟨#[c]⟩)) L = some (.lst (.str "" :: vst wd)) := by
    rw [upd_same, S_cps]
    rfl
  have lst_ : L ≠ st := (hS.ex e1).ne nL
  have hS1 := hS.ex e2
  generalize upd (upd (upd H l1 (.lst [.str ""])) l2 (.lst ((S wd).cps.toList.map fun c => V.str ⟨#[c]⟩))) L (.lst ([.str ""] ++ (S wd).cps.toList.map fun c => V.str ⟨#[c]⟩)) = H1 at e2 hL hS1 ⊢
  refine for_it (walk_list (xs := .str "" :: vst wd)) (fun i σ H' => Fs st H H' ∧ SAt H' st c ∧ H' L = some (.lst (.str "" :: vst wd)) ∧ ∃ (ms : List (List Nat)) (z : Int) (x6 x7 : Option V), σ = [some (.ref st), some (.str (S wd)), some (.str (S dg)), some (.int (n : Nat)), some (.str (S (preR wd ms i))), some (.int z), x6, x7, none] ∧ 0 ≤ z ∧ ms.length = i ∧ ∀ m ∈ ms, Mok m)
    ⟨.of e2, hS1, hL, [], _, _, _, by rw [preR, S_nil]; rfl, Int.natCast_nonneg n, rfl, fun _ h => nomatch h⟩ (fun i σ H' _ pv => .of pv.2.2.1) ?_ ?_
  · rintro i v σ H0 H2 hi ⟨f, s, hL2, ms, z, x6, x7, rfl, hz, hml, hmk⟩ ⟨rfl, hv⟩
    obtain ⟨left, rfl⟩ := Int.eq_ofNat_of_zero_le hz
    refine ⟨⟨_, rfl⟩, _, rfl, _, rfl, fun D nD => lc_st walk_str (fun i => sg (dg.getD i 0)) s (by rw [S_size]; have := hdg.2.2; omega) nD (fun _ _ => trivial) (fun i x H' H2 Fin Fn hi f s ⟨eh, ch, hx, ex⟩ fy fn => ?_) fun H3 ys f3 s3 hy hs => ?_⟩
    · subst eh ex
      rw [S_get] at hx
      rw [getD_of hx] at fy
      refine ⟨rfl, _, rfl, st, c, 3, rfl, by decide, by decide, s, fun H4 d f4 s4 hd => ⟨rfl, _, rfl, ite2 (fun _ => ⟨_, rfl, fy H4 f4 s4⟩) fun _ => fn H4 f4 s4⟩⟩
    rw [S_size] at hs
    obtain ⟨m', hsub, rfl⟩ := sub_vst hs
    have hm' : Mok (m'.take left) := (hdg.sub hsub).sub (List.take_sublist _ _)
    have hm8 := hdg.2.2
    have hml' := hsub.length_le
    refine rJn_vst (.of hy) (by omega) ⟨_, rfl, _, rfl, _, rfl, sz3 (by rw [S_len]; omega), ?_⟩
    rw [cutS_codes, show ((left : Nat) : Int) = ((left : Nat) : Int) from rfl, cutL_to]
    have hpl : (preR wd ms i).length ≤ 100 := by
      cases i with
      | zero => exact Nat.zero_le _
      | succ i =>
        have a := rend_len (wd.take i) ms fun m hm => (hmk m hm).2.2
        have b : (wd.take i).length ≤ wd.length := by rw [List.length_take]; exact Nat.min_le_right _ _
        show (rend (wd.take i) ms).length ≤ 100
        omega
    have hx : ∃ e : List Nat, v = .str (S e) ∧ e.length ≤ 1 ∧ preR wd (ms ++ [m'.take left]) (i + 1) = preR wd ms i ++ e ++ m'.take left := by
      cases i with
      | zero =>
        cases hv
        refine ⟨[], congrArg V.str S_nil.symm, Nat.zero_le _, ?_⟩
        rw [List.length_eq_zero_iff.mp hml]
        rfl
      | succ i =>
        have hv : (vst wd)[i]? = some v := hv
        unfold vst at hv
        rw [List.getElem?_map] at hv
        cases hw2 : wd[i]? with
        | none => rw [hw2] at hv; cases hv
        | some ch =>
          rw [hw2] at hv
          cases hv
          refine ⟨[ch], rfl, Nat.le_refl _, ?_⟩
          show rend (wd.take (i + 1)) (ms ++ [m'.take left]) = rend (wd.take i) ms ++ [ch] ++ m'.take left
          have hil := (List.getElem?_eq_some_iff.mp hw2).1
          rw [List.take_add_one, hw2]
          show rend (wd.take i ++ [ch]) _ = _
          rw [rend_snoc _ _ _ _ (by rw [hml, List.length_take]; omega)]
          simp
    obtain ⟨e, rfl, hel, hpre⟩ := hx
    have htl := List.length_take_le left m'
    have htl2 : (m'.take left).length ≤ m'.length := by rw [List.length_take]; exact Nat.min_le_right _ _
    refine ⟨_, rfl, _, rfl, _, _, rfl, rfl, sz3 (by rw [S_len, S_len]; omega), _, rfl, _, _, rfl, rfl, sz3 (by rw [S_app, S_len, S_len, List.length_append]; omega), _, rfl, _, rfl, _, rfl, sz3 (by rw [S_len]; omega), _, _, rfl, rfl, _, _, rfl, ?_⟩
    refine ⟨f.trans f3, s3, f3 _ _ hL2 lst_, ms ++ [m'.take left], _, _, _, by rw [hpre, ← S_app, ← S_app]; rfl, ?_, by rw [List.length_append, hml]; rfl, fun m hm => ?_⟩
    · rw [S_len]
      have : (m'.take left).length ≤ left := htl
      show (0 : Int) ≤ ((left : Nat) : Int) - ((m'.take left).length : Nat)
      omega
    · rcases List.mem_append.mp hm with h | h
      · exact hmk m h
      · rw [List.mem_singleton.mp h]
        exact hm'
  · rintro σ H2 ⟨f, s, hL2, ms, z, x6, x7, rfl, hz, hml, hmk⟩
    have el : (V.str "" :: vst wd).length = wd.length + 1 := by rw [List.length_cons, vst_len]
    rw [el] at hml
    rw [el]
    have hk := k H2 ⟨wd, ms⟩ f s (pt_of hw sm l8 hml hmk)
    have e : preR wd ms (wd.length + 1) = (⟨wd, ms⟩ : Pt).cs := by
      show rend (wd.take wd.length) ms = rend wd ms
      rw [List.take_length]
    rw [e]
    exact ⟨_, rfl, hk⟩
-- _law_path: 0:_law_state, 1:_law_manner, 2:_law_letters, 3:_law_many, 4:_law_word_here
theorem sc_law_path : FnScope ["_law_state", "_law_manner", "_law_letters", "_law_many", "_law_word_here"] ["_law_state", "_law_manner", "_law_letters", "_law_many"] (defScope s_law_path) := ⟨rfl, rfl, rfl, by decide +kernel, rfl, by decide +kernel, by decide +kernel⟩
theorem ok_law_path {f : Addr} {fd : FuncData} (F : FnP K "_law_path" "_law_path" s_law_path f fd) (m : mg "_law_path" = some (.ref f)) (T : Fx K mg)  (C_law_word : Cal P w K mg base "_law_word" 4 ["_law_state", "_law_manner", "_law_letters", "_law_many"] (sp_law_word K)) (C_law_marked : Cal P w K mg base "_law_marked" 3 ["_law_state", "_law_word_here", "_law_digits", "_law_most"] (sp_law_marked K)) (C_law_one : Cal P w K mg base "_law_one" 3 ["_law_state", "_law_things"] (sp_law_one K)) (C_law_take : Cal P w K mg base "_law_take" 2 ["_law_state", "_law_many"] (sp_law_take K)) : Cal P w K mg base "_law_path" 5 ["_law_state", "_law_manner", "_law_letters", "_law_many"] (sp_law_path K) := by
  refine ⟨f, fd, ?_, m, F.kp, F.bindsN fun _ _ _ _ _ _ us hl => match us, hl with | [_, _, _, _], _ => rfl⟩
  refine F.ok sc_law_path (fun vs H Q E h => by obtain ⟨st, c, ls, n, rfl, h1, h2, hls, hlz, sm, hS, k⟩ := h; rfl) (fun cdv A outer s H vs Q E hr h => ?_)
  obtain ⟨st, c, ls, n, rfl, h1, h2, hls, hlz, sm, hS, k⟩ := h
  have nd := sc_law_path.nd
  have hu := hu_of hr
  refine ⟨_, PSs.nox (pss_cons (ps_set (i := 4) nd rfl (Or.inl rfl) (pe_cal C_law_word (hr.mono (by decide)) (by rfl) (pa_cons (pv 0) (pa_cons (pv 1) (pa_cons (pv 2) (pa_cons (pv 3) pa_nil)))))) -- _law_word_here = _law_word(_law_state, _law_manner, _law_letters, _law_many)
      (pss_cons (ps_if (PW.pt (pw_or (pt_cmpR op_ne (pv 1) pe_str (nomark _)) (pw_or1 (pt_cmpR op_gt (pe_cal C_law_take (hr.mono (by decide)) (by rfl) (pa_cons (pv 0) (pa_cons pe_int pa_nil))) pe_int (nomark _)))))
        (pss_one (ps_ret (pv 4)))
        pss_nil) -- if _law_manner != 'any' or _law_take(_law_state, 3) > 0:
      (pss_one (ps_ret (pe_cal C_law_marked (hr.mono (by decide)) (by rfl) (pa_cons (pv 0) (pa_cons (pv 4) (pa_cons (pe_cal C_law_one (hr.mono (by decide)) (by rfl) (pa_cons (pv 0) (pa_cons (pe_lst (pa_cons pe_str (pa_cons pe_str pa_nil))) pa_nil))) (pa_cons pe_int pa_nil))))))))), ?_⟩
  refine ⟨_, rfl, _, rfl, _, rfl, _, rfl, st, c, ls, n, rfl, h1, h2, hls, hlz, hS, fun H1 wd f1 s1 hwd hwl hin => ?_⟩
  have smw : ∀ c ∈ wd, 97 ≤ c ∧ c ≤ 122 := fun c hc => sm c (hin c hc)
  refine ⟨_, rfl, rfl, _, rfl, iteNS ⟨_, rfl, st, c, 3, rfl, by decide, by decide, s1, fun H2 d f2 s2 hd => ⟨_, _, rfl, rfl, _, rfl, ite2 (fun _ => ?_) fun _ => ?_⟩⟩⟩
  · have hk := k H2 ⟨wd, List.replicate (wd.length + 1) []⟩ (f1.trans f2) s2 (pt_of hwd smw (by omega) (List.length_replicate ..) fun m hm => by rw [(List.mem_replicate.mp hm).2]; exact Mok.nil)
    have ec : (⟨wd, List.replicate (wd.length + 1) []⟩ : Pt).txt = S wd := congrArg S (rend_plain wd)
    rw [ec] at hk
    exact ⟨_, rfl, hk⟩
  · refine ⟨_, rfl, _, rfl, _, rfl, szk, fun l nl => ?_⟩
    have hne := s2.ne nl
    refine ⟨st, c, l, _, rfl, s2.set hne (s2.nc nl), upd_same, hne, (fun e => nomatch e), by simp, fun H3 z f3 s3 hz => ?_⟩
    have hd : ∃ dg, z = .str (S dg) ∧ Mok dg := by
      rcases List.mem_cons.mp hz with rfl | hz
      · exact ⟨[49, 51, 53, 55], congrArg V.str (by decide +kernel), ⟨by decide, by decide, by decide⟩⟩
      · rw [List.mem_singleton.mp hz]
        exact ⟨[48, 50, 54, 56], congrArg V.str (by decide +kernel), ⟨by decide, by decide, by decide⟩⟩
    obtain ⟨dg, rfl, hdg⟩ := hd
    exact ⟨st, c, wd, dg, 4, rfl, hwd, smw, by omega, hdg, s3, fun H4 p f4 s4 hp => k H4 p (((f1.trans f2).trans (.of (Ex.new nl))).trans (f3.trans f4)) s4 hp⟩
end
end K21
end

/-! K21W18 -/
section
set_option Elab.async false
set_option linter.all false
set_option maxRecDepth 100000
set_option maxHeartbeats 4000000
/-! pieces of a path -/
namespace K21
open PySem PySem.Spec PyProof.Rows L2
open Evl (Ex ex_l ex_t)
theorem rend_zip : ∀ (ls : List Nat) (m : List Nat) (r : List (List Nat)), r.length = ls.length → rend ls (m :: r) = m ++ (List.zipWith (fun l m => l :: m) ls r).flatten
  | [], m, [], _ => by simp [rend]
  | l :: ls, m, x :: r, h => by
    have h' : r.length = ls.length := by simpa using h
    show m ++ l :: rend ls (x :: r) = _
    rw [rend_zip ls x r h']
    simp
theorem vmk_strs {ms : List (List Nat)} : ∀ x ∈ vmk ms, ∃ z, x = .str z := fun x hx => by
  obtain ⟨m, _, rfl⟩ := List.mem_map.mp hx
  exact ⟨_, rfl⟩
theorem vst_strs {ms : List Nat} : ∀ x ∈ vst ms, ∃ z, x = .str z := fun x hx => by
  obtain ⟨m, _, rfl⟩ := List.mem_map.mp hx
  exact ⟨_, rfl⟩
/-- what stands while pieces are drawn -/
structure Pc (H H' : Hp) (st c a b fl : Addr) (p : Pt) (ks : List Pt) : Prop where
  f : Fs st H H'
  s : SAt H' st c
  a : H' a = some (.lst (vst p.ls))
  b : H' b = some (.lst (vmk p.ms))
  l : H' fl = some (.lst (vtx ks))
theorem Pc.up {H H' H2 : Hp} {st c a b fl : Addr} {p : Pt} {ks : List Pt} (h : Pc H H' st c a b fl p ks) (n1 : a ≠ st) (n2 : b ≠ st) (n3 : fl ≠ st) (f : Fs st H' H2) (s : SAt H2 st c) : Pc H H2 st c a b fl p ks :=
  ⟨h.f.trans f, s, f _ _ h.a n1, f _ _ h.b n2, f _ _ h.l n3⟩
theorem Pc.ex {H H' H2 : Hp} {st c a b fl : Addr} {p : Pt} {ks : List Pt} (h : Pc H H' st c a b fl p ks) (e : Ex H' H2) : Pc H H2 st c a b fl p ks :=
  ⟨h.f.trans (.of e), h.s.ex e, e _ _ h.a, e _ _ h.b, e _ _ h.l⟩
theorem not_inV {q : Pt} {ks : List Pt} (h : inV (.str q.txt) (vtx ks) = false) : q.cs ∉ ks.map Pt.cs := fun m => by
  obtain ⟨r, hr, e⟩ := List.mem_map.mp m
  have := List.any_eq_false.mp h (.str r.txt) (List.mem_map.mpr ⟨r, hr, rfl⟩)
  refine this ?_
  show decide (r.txt = q.txt) = true
  exact decide_eq_true (congrArg S e)
def sp_law_pieces (K : PySem.W.Frag) : Sp := fun vs H Q _ => ∃ (st c : Addr) (p : Pt) (n : Nat), vs = [.ref st, .str p.txt, .int (n : Nat)] ∧ p.Ok ∧ n ≤ 8 ∧ SAt H st c ∧
  ∀ (H' : Hp) (l : Addr) (ks : List Pt), H l = none → Fs st H H' → SAt H' st c → H' l = some (.lst (vtx ks)) → (∀ q ∈ ks, q.Ok) → (ks.map Pt.cs).Nodup → ks.length ≤ n → Q (.ref l) H'
section
variable {P : Program} {w : World} {K : PySem.W.Frag} {mg : Str → Option Value} {base : Heap} {C CL : Addr}
-- _law_pieces: 0:_law_state, 1:_law_path_here, 2:_law_many, 3:_law_letters, 4:_law_digits, 5:_law_found, 6:_law_k, 7:_law_i, 8:_law_j, 9:_law_marks_here, 10:_law_kept, 11:_law_x, 12:_law_d  cells: _law_state
theorem sc_law_pieces : FnScope ["_law_state", "_law_path_here", "_law_many", "_law_letters", "_law_digits", "_law_found", "_law_k", "_law_i", "_law_j", "_law_marks_here", "_law_kept", "_law_x", "_law_d"] ["_law_state", "_law_path_here", "_law_many"] (defScope s_law_pieces) := ⟨rfl, rfl, rfl, by decide +kernel, rfl, by decide +kernel, by decide +kernel⟩
theorem ok_law_pieces {f : Addr} {fd : FuncData} (F : FnP K "_law_pieces" "_law_pieces" s_law_pieces f fd) (m : mg "_law_pieces" = some (.ref f)) (T : Fx K mg)  (C_law_read : Cal P w K mg base "_law_read" 1 ["_law_x"] (sp_law_read K)) (C_law_take : Cal P w K mg base "_law_take" 2 ["_law_state", "_law_many"] (sp_law_take K)) (C_law_fewer : Cal P w K mg base "_law_fewer" 3 ["_law_state", "_law_mark"] (sp_law_fewer K)) : Cal P w K mg base "_law_pieces" 4 ["_law_state", "_law_path_here", "_law_many"] (sp_law_pieces K) := by
  refine ⟨f, fd, ?_, m, F.kp, F.bindsN fun _ _ _ _ _ _ us hl => match us, hl with | [_, _, _], _ => rfl⟩
  refine F.ok sc_law_pieces (fun vs H Q E h => by obtain ⟨st, c, p, n, rfl, hp, hn, hS, k⟩ := h; rfl) (fun cdv A outer s H vs Q E hr h => ?_)
  obtain ⟨st, c, p, n, rfl, hp, hn, hS, k⟩ := h
  have nd := sc_law_pieces.nd
  have hu := hu_of hr
  refine ⟨_, PSs.nox (pss_cons (ps_asg (pe_cal C_law_read (hr.mono (by decide)) (by rfl) (pa_cons (pv 1) pa_nil)) (pg_tup rfl (pgs_cons (pg_name (i := 3) nd rfl (Or.inl rfl)) (pgs_cons (pg_name (i := 4) nd rfl (Or.inl rfl)) pgs_nil)))) -- _law_letters, _law_digits = _law_read(_law_path_here)
      (pss_cons (ps_set (i := 5) nd rfl (Or.inl rfl) (pe_lst pa_nil)) -- _law_found = []
      (pss_cons (ps_for PassesOwn.never rfl (pi_range1 (by rfl) T.n_range (pa_cons (pv 2) pa_nil)) (pg_name (i := 6) nd rfl (Or.inl rfl))
        (pss_cons (ps_set (i := 7) nd rfl (Or.inl rfl) (pe_cal C_law_take (hr.mono (by decide)) (by rfl) (pa_cons (pv 0) (pa_cons (pe_callB call_len_seq (by rfl) T.n_len (by decide +kernel) (pa_cons (pv 3) pa_nil)) pa_nil)))) -- _law_i = _law_take(_law_state, len(_law_letters))
        (pss_cons (ps_set (i := 8) nd rfl (Or.inl rfl) (pe_op op_add (pe_op op_add (pv 7) pe_int) (pe_cal C_law_take (hr.mono (by decide)) (by rfl) (pa_cons (pv 0) (pa_cons (pe_op op_sub (pe_callB call_len_seq (by rfl) T.n_len (by decide +kernel) (pa_cons (pv 3) pa_nil)) (pv 7)) pa_nil))))) -- _law_j = _law_i + 1 + _law_take(_law_state, len(_law_letters) - _law_i)
        (pss_cons (ps_set (i := 9) nd rfl (Or.inl rfl) (pe_callTy call_list_of (by rfl) T.n_list (by decide +kernel) (pa_cons (pe_slice sl_list (pv 4) (po_some (pv 7)) (po_some (pe_op op_add (pv 8) pe_int))) pa_nil))) -- _law_marks_here = list(_law_digits[_law_i:_law_j + 1])
        (Evl.pss_cut (ps_if (pt_cmpR op_eq (pe_cal C_law_take (hr.mono (by decide)) (by rfl) (pa_cons (pv 0) (pa_cons pe_int pa_nil))) pe_int (nomark _))
          (pss_one (ps_set (i := 9) nd rfl (Or.inl rfl) (pe_op op_cat (pe_op op_cat (pe_lst (pa_cons (pe_cal C_law_fewer (hr.mono (by decide)) (by rfl) (pa_cons (pv 0) (pa_cons (pe_ix ix_list (pv 9) pe_int (fun _ _ => rfl)) pa_nil))) pa_nil)) (pe_slice sl_list (pv 9) (po_some pe_int) (po_some (pe_un un_neg pe_int)))) (pe_lst (pa_cons (pe_cal C_law_fewer (hr.mono (by decide)) (by rfl) (pa_cons (pv 0) (pa_cons (pe_ix ix_list (pv 9) (pe_un un_neg pe_int) (fun _ _ => rfl)) pa_nil))) pa_nil)))))
          pss_nil) -- if _law_take(_law_state, 2) == 0:
        (Evl.pss_cut (ps_if (pt_cmpR op_eq (pe_cal C_law_take (hr.mono (by decide)) (by rfl) (pa_cons (pv 0) (pa_cons pe_int pa_nil))) pe_int (nomark _))
          (pss_one (ps_setLc (i := 9) (own := [("_law_x", 11)]) (g := (gName 11)) (by rfl) nd rfl rfl (sw_true rfl rfl rfl (by decide +kernel)) (pi_list (pv 9)) (blkOk_by (N := ["_law_state", "_law_path_here", "_law_many", "_law_letters", "_law_digits", "_law_found", "_law_k", "_law_i", "_law_j", "_law_marks_here", "_law_kept", "_law_x", "_law_d"]) (sc := defScope s_law_pieces) (own := [("_law_x", 11)]) (by decide +kernel)) (fun _ _ _ _ _ => (pg_name (i := 11) nd rfl (Or.inl rfl) (.inr rfl))) (fun _ _ _ _ _ => pts_nil) (fun _ _ _ _ _ => (pe_cal C_law_fewer (hr.mono (by decide)) (by rfl) (pa_cons (pv 0) (pa_cons (pv 11) pa_nil))))))
          pss_nil) -- if _law_take(_law_state, 6) == 0:
        (pss_cons (ps_set (i := 10) nd rfl (Or.inl rfl) (pe_op op_add_str (pe_ix ix_list (pv 9) pe_int (fun _ _ => rfl)) (pe_join pe_str (pe_lc (own := [("_law_x", 11), ("_law_d", 12)]) (g := (gTup K 2 (gCons (gName 11) (gCons (gName 12) gNil)))) (by rfl) nd (pi_zip (by rfl) T.n_zip (pa_cons (pe_slice sl_list (pv 3) (po_some (pv 7)) (po_some (pv 8))) (pa_cons (pe_slice sl_list (pv 9) (po_some pe_int) po_none) pa_nil))) (blkOk_by (N := ["_law_state", "_law_path_here", "_law_many", "_law_letters", "_law_digits", "_law_found", "_law_k", "_law_i", "_law_j", "_law_marks_here", "_law_kept", "_law_x", "_law_d"]) (sc := defScope s_law_pieces) (own := [("_law_x", 11), ("_law_d", 12)]) (by decide +kernel)) (fun _ _ _ _ _ => (pg_tup rfl (pgs_cons (pg_name (i := 11) nd rfl (Or.inl rfl) (.inr rfl)) (pgs_cons (pg_name (i := 12) nd rfl (Or.inl rfl) (.inr rfl)) pgs_nil)))) (fun _ _ _ _ _ => pts_nil) (fun _ _ _ _ _ => (pe_op op_add_str (pv 11) (pv 12)))) : PE _ _ (tM1 (rJn K) _ _)))) -- _law_kept = _law_marks_here[0] + ''.join([_law_x + _law_d for _law_x, _law_d in zip(_law_letters[_law_i:_law_j], _law_marks_here[1:])])
        (pss_one (ps_if (pt_cmpR op_notIn_seq (pv 10) (pv 5) (by rfl))
          (pss_one (ps_expr (pe_bm PySem.F.plainAttrs_list PySem.F.slot_list_append PySem.F.type_list_append mt_append (pv 5) (pa_cons (pv 10) pa_nil))))
          pss_nil))))))))) -- for _law_k in range(_law_many):
      (pss_one (ps_ret (pv 5)))))), ?_⟩
  have l8 := hp.l8
  have lm := hp.len
  have pok : ∀ m ∈ p.ms, Mok m := fun m hm => ⟨hp.dg m hm, hp.up m hm, hp.m8 m hm⟩
  refine ⟨_, rfl, p, rfl, hp, fun t a b H1 e1 nt na nb ab ht ha hb => ⟨t, _, rfl, .of ht, rfl, _, _, rfl, _, _, rfl, rfl, ?_⟩⟩
  refine ⟨szk, fun fl nf => ?_⟩
  have e2 := ex_new (o := .lst []) e1 nf
  have ast : a ≠ st := hS.ne na
  have bst : b ≠ st := hS.ne nb
  have fst_ : fl ≠ st := (hS.ex e1).ne nf
  have fc : fl ≠ c := (hS.ex e1).nc nf
  have fa : a ≠ fl := ne_of_none ha nf
  have fb : b ≠ fl := ne_of_none hb nf
  have f0 : H fl = none := fresh e1 nf
  refine ⟨_, rfl, _, rfl, by omega, by omega, ?_⟩
  rw [Int.toNat_natCast]
  refine for_it walk_r0 (fun i σ H' => Fs st H H' ∧ SAt H' st c ∧ H' a = some (.lst (vst p.ls)) ∧ H' b = some (.lst (vmk p.ms)) ∧ ∃ (ks : List Pt) (x6 x7 x8 x9 x10 : Option V), σ = [some (.ref st), some (.str p.txt), some (.int (n : Nat)), some (.ref a), some (.ref b), some (.ref fl), x6, x7, x8, x9, x10, none, none] ∧ H' fl = some (.lst (vtx ks)) ∧ (∀ q ∈ ks, q.Ok) ∧ (ks.map Pt.cs).Nodup ∧ ks.length ≤ i)
    ⟨.of e2, hS.ex e2, at_new ha nf, at_new hb nf, [], _, _, _, _, _, rfl, upd_same, fun _ h => (nomatch h), List.nodup_nil, Nat.zero_le _⟩ (fun _ _ _ _ _ => trivial) ?_ ?_
  · rintro kk v σ H0 H' hkk ⟨f, s, ha1, hb1, ks, x6, x7, x8, x9, x10, rfl, hf, ko, kn, kl⟩ ⟨rfl, rfl⟩
    have P1 : Pc H H' st c a b fl p ks := ⟨f, s, ha1, hb1, hf⟩
    have lp : 1 ≤ p.ls.length := List.length_pos_iff.mpr hp.ne
    refine ⟨_, rfl, _, rfl, _, _, rfl, .inl (.of P1.a), st, c, p.ls.length, by rw [vst_len]; rfl, lp, by omega, P1.s, fun H2 i f2 s2 hi => ?_⟩
    have P2 := P1.up ast bst fst_ f2 s2
    refine ⟨_, rfl, _, _, rfl, rfl, _, rfl, _, rfl, _, _, rfl, .inl (.of P2.a), _, rfl, _, _, rfl, rfl, st, c, p.ls.length - i, ?_, by omega, by omega, P2.s, fun H3 d f3 s3 hd => ⟨_, _, rfl, rfl, ?_⟩⟩
    · rw [vst_len]
      show [V.ref st, V.int (((p.ls.length : Nat) : Int) - (i : Nat))] = _
      rw [show ((p.ls.length : Nat) : Int) - (i : Nat) = ((p.ls.length - i : Nat) : Int) by omega]
    have P3 := P2.up ast bst fst_ f3 s3
    refine ⟨_, rfl, _, rfl, _, rfl, _, rfl, _, _, rfl, rfl, _, rfl, b, _, rfl, .of P3.b, fun s1 ns1 => ⟨s1, _, rfl, .inl (.of upd_same), fun s2 ns2 => ?_⟩⟩
    have e4 : Ex H3 (upd H3 s1 (.lst (cutV (vmk p.ms) (some (i : Int)) (some ((i : Int) + 1 + (d : Nat) + 1))))) := Ex.new ns1
    have e5 := ex_new (o := .lst (cutV (vmk p.ms) (some (i : Int)) (some ((i : Int) + 1 + (d : Nat) + 1)))) e4 ns2
    have P5 := P3.ex e5
    have hm0 : cutV (vmk p.ms) (some (i : Int)) (some ((i : Int) + 1 + (d : Nat) + 1)) = vmk ((p.ms.drop i).take (d + 2)) := by
      rw [vmk, cutV_map, show ((i : Int) + 1 + (d : Nat) + 1) = ((i + 1 + d + 1 : Nat) : Int) from rfl, cutL_mid _ (by omega) (by omega), show i + 1 + d + 1 - i = d + 2 by omega]
      rfl
    have l0 : ((p.ms.drop i).take (d + 2)).length = d + 2 := by rw [List.length_take, List.length_drop]; omega
    have k0' : ∀ m ∈ (p.ms.drop i).take (d + 2), Mok m := fun m hm => pok m (List.mem_of_mem_drop (List.mem_of_mem_take hm))
    have hs2 : upd (upd H3 s1 (.lst (cutV (vmk p.ms) (some (i : Int)) (some ((i : Int) + 1 + (d : Nat) + 1))))) s2 (.lst (cutV (vmk p.ms) (some (i : Int)) (some ((i : Int) + 1 + (d : Nat) + 1)))) s2 = some (.lst (vmk ((p.ms.drop i).take (d + 2)))) := by rw [upd_same, hm0]
    generalize (p.ms.drop i).take (d + 2) = ms0 at hs2 l0 k0'
    refine ⟨fun σ' H' => Pc H H' st c a b fl p ks ∧ ∃ (mh : Addr) (ms' : List (List Nat)) (x10 : Option V), σ' = [some (.ref st), some (.str p.txt), some (.int (n : Nat)), some (.ref a), some (.ref b), some (.ref fl), some (.int (kk : Nat)), some (.int (i : Nat)), some (.int ((i : Int) + 1 + (d : Nat))), some (.ref mh), x10, none, none] ∧ H' mh = some (.lst (vmk ms')) ∧ ms'.length = d + 2 ∧ ∀ m ∈ ms', Mok m, ?_, ?_⟩
    · refine ⟨_, rfl, st, c, 2, rfl, by decide, by decide, P5.s, fun H4 d4 f4 s4 hd4 => ⟨rfl, _, rfl, ite2 (fun _ => ?_) fun _ => ?_⟩⟩
      · have P6 := P5.up ast bst fst_ f4 s4
        have hm4 := f4 _ _ hs2 (P5.s.not_str hs2 vmk_strs)
        have q0 : ms0[0]? = some (ms0.headD []) := by
          cases e : ms0 with
          | nil => rw [e] at l0; cases l0
          | cons x r => rfl
        have q1 : ms0.getLast? = some (ms0.getLastD []) := by
          rw [List.getLastD_eq_getLast?, List.getLast?_eq_some_getLast (fun e => by rw [e] at l0; cases l0)]
          rfl
        have o0 := k0' _ (List.mem_of_getElem? q0)
        have o1 := k0' _ (List.mem_of_getLast? q1)
        generalize ms0.headD [] = m0 at q0 o0
        generalize ms0.getLastD [] = m1 at q1 o1
        refine ⟨_, rfl, _, rfl, _, _, 0, .str (S m0), rfl, rfl, .of hm4, atI_nat (j := 0) (by rw [vmk, List.getElem?_map, q0]; rfl), st, c, m0, rfl, by have := o0.2.2; omega, P6.s, fun H5 m0' f5 s5 sub5 => ⟨szk, fun l1 nl1 => ?_⟩⟩
        have P7 := P6.up ast bst fst_ f5 s5
        have hm5 := f5 _ _ hm4 (P6.s.not_str hm4 vmk_strs)
        refine ⟨_, rfl, 1, rfl, 1, rfl, _, rfl, s2, _, rfl, .of (at_new hm5 nl1), fun u nu => ?_⟩
        have hu1 : upd (upd H5 l1 (.lst [.str (S m0')])) u (.lst (cutV (vmk ms0) (some 1) (some (-1)))) u = some (.lst (vmk ((ms0.drop 1).dropLast))) := by
          rw [upd_same, vmk, cutV_map, cutL_in _ (by omega)]
          rfl
        have e6 := ex_new (o := .lst (cutV (vmk ms0) (some 1) (some (-1)))) (Ex.new (o := .lst [.str (S m0')]) nl1) nu
        have hl1 : upd (upd H5 l1 (.lst [.str (S m0')])) u (.lst (cutV (vmk ms0) (some 1) (some (-1)))) l1 = some (.lst [.str (S m0')]) := at_new upd_same nu
        have P8 := P7.ex e6
        have hm6 := e6 _ _ hm5
        refine ⟨l1, u, _, _, rfl, rfl, hl1, hu1, ?_, fun v nv => ?_⟩
        · rw [vmk_len, List.length_dropLast, List.length_drop]
          exact sz3 (by show 1 + _ ≤ _; omega)
        generalize upd (upd H5 l1 (.lst [.str (S m0')])) u (.lst (cutV (vmk ms0) (some 1) (some (-1)))) = H6 at hu1 e6 hl1 P8 hm6 nv ⊢
        have e7 : Ex H6 (upd H6 v (.lst ([.str (S m0')] ++ vmk ((ms0.drop 1).dropLast)))) := Ex.new nv
        have hv1 : upd H6 v (.lst ([.str (S m0')] ++ vmk ((ms0.drop 1).dropLast))) v = some (.lst (vmk (m0' :: (ms0.drop 1).dropLast))) := upd_same
        have P9 := P8.ex e7
        have hm7 := e7 _ _ hm6
        refine ⟨_, rfl, _, rfl, 1, rfl, _, _, _, .str (S m1), rfl, rfl, .of hm7, atI_neg1 (by rw [vmk, List.getLast?_map, q1]; rfl), st, c, m1, rfl, by have := o1.2.2; omega, P9.s, fun H7 m1' f7 s7 sub7 => ⟨szk, fun l2 nl2 => ?_⟩⟩
        have P10 := P9.up ast bst fst_ f7 s7
        have hv2 := f7 _ _ hv1 (P9.s.not_str hv1 vmk_strs)
        refine ⟨v, l2, _, _, rfl, rfl, at_new hv2 nl2, upd_same, ?_, fun z nz => ?_⟩
        · rw [vmk_len, List.length_cons, List.length_dropLast, List.length_drop]
          exact sz3 (by show _ + 1 ≤ _; omega)
        refine ⟨P10.ex (ex_new (Ex.new nl2) nz), z, m0' :: (ms0.drop 1).dropLast ++ [m1'], _, rfl, ?_, ?_, fun m hm => ?_⟩
        · rw [upd_same, vmk_snoc]
        · rw [List.length_append, List.length_cons, List.length_dropLast, List.length_drop, l0]
          show d + 2 - 1 - 1 + 1 + 1 = d + 2
          omega
        · rcases List.mem_append.mp hm with h | h
          · rcases List.mem_cons.mp h with h | h
            · rw [h]
              exact o0.sub sub5
            · exact k0' m (List.mem_of_mem_drop ((List.dropLast_sublist _).subset h))
          · rw [List.mem_singleton.mp h]
            exact o1.sub sub7
      · exact ⟨P5.up ast bst fst_ f4 s4, _, ms0, _, rfl, f4 _ _ hs2 (P5.s.not_str hs2 vmk_strs), l0, k0'⟩
    rintro σ' H6 ⟨P6, mh, ms1, y10, rfl, hmh, l1, k1⟩
    refine ⟨fun σ' H' => Pc H H' st c a b fl p ks ∧ ∃ (mh : Addr) (ms' : List (List Nat)) (x10 : Option V), σ' = [some (.ref st), some (.str p.txt), some (.int (n : Nat)), some (.ref a), some (.ref b), some (.ref fl), some (.int (kk : Nat)), some (.int (i : Nat)), some (.int ((i : Int) + 1 + (d : Nat))), some (.ref mh), x10, none, none] ∧ H' mh = some (.lst (vmk ms')) ∧ ms'.length = d + 2 ∧ ∀ m ∈ ms', Mok m, ?_, ?_⟩
    · refine ⟨_, rfl, st, c, 6, rfl, by decide, by decide, P6.s, fun H7 d7 f7 s7 hd7 => ⟨rfl, _, rfl, ite2 (fun _ => ?_) fun _ => ?_⟩⟩
      · have P7 := P6.up ast bst fst_ f7 s7
        have hm7 := f7 _ _ hmh (P6.s.not_str hmh vmk_strs)
        refine ⟨_, rfl, mh, rfl, ⟨_, .of hm7⟩, fun D nD => ?_⟩
        have d1 := P7.s.ne nD
        have d2 := P7.s.nc nD
        have mst := P7.s.not_str hm7 vmk_strs
        refine lc_it (walk_list (xs := vmk ms1)) (fun j H' => Fs st H7 H' ∧ SAt H' st c ∧ ∃ ms2 : List (List Nat), H' D = some (.lst (vmk ms2)) ∧ ms2.length = j ∧ ∀ m ∈ ms2, Mok m) ⟨.of (Ex.new nD), P7.s.set d1 d2, [], upd_same, rfl, fun _ h => (nomatch h)⟩ (fun j H' _ pv => .of (pv.1 _ _ hm7 mst)) ?_ ?_
        · rintro j x Hj Hj' hj ⟨fj, sj, ms2, hD2, hl2, hk2⟩ ⟨rfl, hx⟩
          obtain ⟨m, hm, rfl⟩ := List.mem_map.mp (List.mem_of_getElem? hx)
          have om := k1 m hm
          refine ⟨rfl, tyes ⟨_, rfl, _, rfl, st, c, m, rfl, by have := om.2.2; omega, sj, fun H9 m' f9 s9 sub9 => ?_⟩⟩
          have hD9 := f9 _ _ hD2 d1
          rw [vmk_len] at hj
          refine ⟨_, hD9, by rw [vmk_len]; exact small_len (by omega), (fj.trans f9).set nD, s9.set d1 d2, ms2 ++ [m'], by rw [upd_same, vmk_snoc], by rw [List.length_append, hl2]; rfl, fun y hy => ?_⟩
          rcases List.mem_append.mp hy with h | h
          · exact hk2 y h
          · rw [List.mem_singleton.mp h]
            exact om.sub sub9
        · rintro H9 ⟨f9, s9, ms2, hD9, hl9, hk9⟩
          rw [vmk_len] at hl9
          exact ⟨P7.up ast bst fst_ f9 s9, D, ms2, _, rfl, hD9, hl9.trans l1, hk9⟩
      · exact ⟨P6.up ast bst fst_ f7 s7, _, ms1, _, rfl, f7 _ _ hmh (P6.s.not_str hmh vmk_strs), l1, k1⟩
    rintro σ' H8 ⟨P8, mh, ms2, z10, rfl, hmh, l2, k2⟩
    have q0 : ms2[0]? = some (ms2.headD []) := by
      cases e : ms2 with
      | nil => rw [e] at l2; cases l2
      | cons x r => rfl
    have esp : ms2 = ms2.headD [] :: ms2.drop 1 := by
      cases e : ms2 with
      | nil => rw [e] at l2; cases l2
      | cons x r => rfl
    generalize ms2.headD [] = m0 at q0 esp
    have hr : (ms2.drop 1).length = d + 1 := by rw [List.length_drop, l2]; rfl
    have kr : ∀ m ∈ ms2.drop 1, Mok m := fun m hm => k2 m (List.mem_of_mem_drop hm)
    have o0 := k2 m0 (List.mem_of_getElem? q0)
    refine ⟨_, rfl, _, _, 0, .str (S m0), rfl, rfl, .of hmh, atI_nat (j := 0) (by rw [vmk, List.getElem?_map, q0]; rfl), ⟨_, rfl⟩, _, rfl, _, rfl, _, rfl, _, rfl, _, rfl, a, _, rfl, .of P8.a, fun s3 ns3 => ⟨_, rfl, _, rfl, mh, _, rfl, .of (at_new hmh ns3), fun s4 ns4 => ?_⟩⟩
    have hls : cutV (vst p.ls) (some (i : Int)) (some ((i : Int) + 1 + (d : Nat))) = vst ((p.ls.drop i).take (d + 1)) := by
      rw [vst, cutV_map, show ((i : Int) + 1 + (d : Nat)) = ((i + 1 + d : Nat) : Int) from rfl, cutL_mid _ (by omega) (by omega), show i + 1 + d - i = d + 1 by omega]
      rfl
    have hll : ((p.ls.drop i).take (d + 1)).length = d + 1 := by rw [List.length_take, List.length_drop]; omega
    have hlm : ∀ x ∈ (p.ls.drop i).take (d + 1), 97 ≤ x ∧ x ≤ 122 := fun x hx => hp.sm x (List.mem_of_mem_drop (List.mem_of_mem_take hx))
    have e9 := ex_new (o := .lst (cutV (vmk ms2) (some 1) none)) (Ex.new (o := .lst (cutV (vst p.ls) (some (i : Int)) (some ((i : Int) + 1 + (d : Nat))))) ns3) ns4
    have hs3 : upd (upd H8 s3 (.lst (cutV (vst p.ls) (some (i : Int)) (some ((i : Int) + 1 + (d : Nat)))))) s4 (.lst (cutV (vmk ms2) (some 1) none)) s3 = some (.lst (vst ((p.ls.drop i).take (d + 1)))) := by
      refine (at_new upd_same ns4).trans ?_
      rw [hls]
    have hs4 : upd (upd H8 s3 (.lst (cutV (vst p.ls) (some (i : Int)) (some ((i : Int) + 1 + (d : Nat)))))) s4 (.lst (cutV (vmk ms2) (some 1) none)) s4 = some (.lst (vmk (ms2.drop 1))) := by
      rw [upd_same, vmk, cutV_map, cutL_from1]
      rfl
    have P9 := P8.ex e9
    generalize upd (upd H8 s3 (.lst (cutV (vst p.ls) (some (i : Int)) (some ((i : Int) + 1 + (d : Nat)))))) s4 (.lst (cutV (vmk ms2) (some 1) none)) = H9 at hs3 hs4 P9 ⊢
    generalize (p.ls.drop i).take (d + 1) = lsub at hs3 hll hlm
    have hzl : (List.zipWith (fun l m => l :: m) lsub (ms2.drop 1)).length = d + 1 := by rw [List.length_zipWith, hll, hr, Nat.min_self]
    refine ⟨s3, s4, _, _, rfl, .of hs3, .of hs4, fun D nD => lc_map (walk_zip (n := d + 1) (by rw [vst_len, vmk_len, hll, hr, Nat.min_self])) (fun j => .str (S ((List.zipWith (fun l m => l :: m) lsub (ms2.drop 1)).getD j []))) (by omega) nD (fun H' e => ⟨ex_l e (.of hs3), ex_l e (.of hs4)⟩) (fun j x H' H2 Fin hj e ⟨T, x1, y1, ex, nT, eh, h1, h2⟩ fy => ?_) fun H10 e10 hD => ?_⟩
    · subst ex eh
      have h1 : (vst lsub)[j]? = some x1 := h1
      have h2 : (vmk (ms2.drop 1))[j]? = some y1 := h2
      rw [vst, List.getElem?_map] at h1
      rw [vmk, List.getElem?_map] at h2
      cases g1 : lsub[j]? with
      | none => rw [g1] at h1; cases h1
      | some l =>
        cases g2 : (ms2.drop 1)[j]? with
        | none => rw [g2] at h2; cases h2
        | some m =>
          rw [g1] at h1
          rw [g2] at h2
          cases h1
          cases h2
          have om := kr m (List.mem_of_getElem? g2)
          have ez : (List.zipWith (fun l m => l :: m) lsub (ms2.drop 1)).getD j [] = l :: m := getD_of (by rw [List.getElem?_zipWith, g1, g2])
          rw [ez] at fy
          refine ⟨T, _, rfl, .of upd_same, rfl, _, _, rfl, _, _, rfl, rfl, rfl, _, rfl, _, rfl, _, _, rfl, rfl, ?_, ?_⟩
          · rw [S_len]
            exact sz3 (by show 1 + _ ≤ _; have := om.2.2; omega)
          · have q := fy _ (Ex.new nT (o := .tup [sg l, .str (S m)]))
            rw [S_one, S_app]
            exact q
    have hD : H10 D = some (.lst (vmk (List.zipWith (fun l m => l :: m) lsub (ms2.drop 1)))) := by
      rw [hD, vmk]
      conv => rhs; rw [← range_get [] (List.zipWith (fun l m => l :: m) lsub (ms2.drop 1)), List.map_map, hzl]
      rfl
    have pq : (⟨lsub, ms2⟩ : Pt).Ok := pt_of (fun e => by rw [e] at hll; cases hll) hlm (by omega) (by rw [l2, hll]) k2
    have eq1 : m0 ++ (List.zipWith (fun l m => l :: m) lsub (ms2.drop 1)).flatten = (⟨lsub, ms2⟩ : Pt).cs := by
      rw [← rend_zip _ _ _ (by rw [hr, hll]), ← esp]
      rfl
    have hql := pq.cs_len
    rw [← eq1, List.length_append] at hql
    refine rJn_vmk (.of hD) (by omega) ⟨_, _, rfl, rfl, sz3 (by rw [S_len, S_len]; omega), ?_⟩
    have ev : S m0 ++ S (List.zipWith (fun l m => l :: m) lsub (ms2.drop 1)).flatten = (⟨lsub, ms2⟩ : Pt).txt := by
      rw [S_app, eq1]
      rfl
    rw [ev]
    have P10 := P9.ex e10
    refine ⟨_, rfl, _, rfl, fl, _, rfl, .inl (.of P10.l), rfl, fl_vtx _, _, rfl, ?_⟩
    cases hin : inV (.str (⟨lsub, ms2⟩ : Pt).txt) (vtx ks) with
    | true => exact iteF ⟨P10.f, P10.s, P10.a, P10.b, ks, _, _, _, _, _, rfl, P10.l, ko, kn, Nat.le_succ_of_le kl⟩
    | false =>
      refine iteT ⟨_, rfl, .inl ⟨rfl, _, .of P10.l⟩, _, rfl, _, _, _, rfl, rfl, P10.l, by rw [vtx_len]; exact small_len (by omega), ?_⟩
      refine ⟨P10.f.set f0, P10.s.set fst_ fc, at_ne P10.a fa, at_ne P10.b fb, ks ++ [⟨lsub, ms2⟩], _, _, _, _, _, rfl, ?_, fun q hq => ?_, ?_, ?_⟩
      · rw [upd_same, vtx, vtx, List.map_append]
        rfl
      · rcases List.mem_append.mp hq with h | h
        · exact ko q h
        · rw [List.mem_singleton.mp h]
          exact pq
      · rw [List.map_append, List.nodup_append]
        exact ⟨kn, by simp, fun x hx y hy e => not_inV hin (by rw [List.mem_singleton.mp hy] at e; rw [← e]; exact hx)⟩
      · rw [List.length_append]
        exact Nat.succ_le_succ kl
  · rintro σ H' ⟨f, s, _, _, ks, x6, x7, x8, x9, x10, rfl, hf, ko, kn, kl⟩
    exact ⟨_, rfl, k H' fl ks f0 f s hf ko kn kl⟩
end
end K21
end

/-! K21W19 -/
section
set_option Elab.async false
set_option linter.all false
set_option maxRecDepth 100000
set_option maxHeartbeats 4000000
/-! a crowded book -/
namespace K21
open PySem PySem.Spec PyProof.Rows L2
open Evl (Ex ex_l ex_t)
def plain (wd : List Nat) : Pt := ⟨wd, List.replicate (wd.length + 1) []⟩
theorem plain_cs (wd : List Nat) : (plain wd).cs = wd := rend_plain wd
theorem plain_ok {wd : List Nat} (ne : wd ≠ []) (sm : ∀ c ∈ wd, 97 ≤ c ∧ c ≤ 122) (l8 : wd.length ≤ 8) : (plain wd).Ok :=
  pt_of ne sm l8 (List.length_replicate ..) fun m hm => by rw [(List.mem_replicate.mp hm).2]; exact Mok.nil
def cands : List Pt := [plain [99], plain [99, 99], plain [99, 100], plain [100], plain [100, 100], plain [100, 99]]
theorem cands_txt : ([V.str "c", V.str "cc", V.str "cd", V.str "d", V.str "dd", V.str "dc"] : List V) = vtx cands := by
  have e : (["c", "cc", "cd", "d", "dd", "dc"] : List Str) = cands.map Pt.txt := by decide +kernel
  have := congrArg (List.map V.str) e
  rw [List.map_map] at this
  exact this
theorem cands_cs : cands.map Pt.cs = [[99], [99, 99], [99, 100], [100], [100, 100], [100, 99]] := by
  unfold cands
  simp only [List.map_cons, List.map_nil, plain_cs]
theorem cands_ok : ∀ p ∈ cands, p.Ok := by
  intro p hp
  unfold cands at hp
  simp only [List.mem_cons, List.not_mem_nil, or_false] at hp
  rcases hp with rfl | rfl | rfl | rfl | rfl | rfl <;> exact plain_ok (by decide) (by decide) (by decide)
def sp_law_crowded (K : PySem.W.Frag) : Sp := fun vs H Q _ => ∃ (kl : Addr) (ks : List Pt), vs = [.ref kl] ∧ H kl = some (.lst (vtx ks)) ∧ Bok ks ∧ ∀ (H' : Hp) (l : Addr) (ks' : List Pt), H l = none → Ex H H' → H' l = some (.lst (vtx ks')) → Bok ks' → Q (.ref l) H'
section
variable {P : Program} {w : World} {K : PySem.W.Frag} {mg : Str → Option Value} {base : Heap} {C CL : Addr}
-- _law_crowded: 0:_law_kept, 1:_law_x  cells: _law_kept
theorem sc_law_crowded : FnScope ["_law_kept", "_law_x"] ["_law_kept"] (defScope s_law_crowded) := ⟨rfl, rfl, rfl, by decide +kernel, rfl, by decide +kernel, by decide +kernel⟩
theorem ok_law_crowded {f : Addr} {fd : FuncData} (F : FnP K "_law_crowded" "_law_crowded" s_law_crowded f fd) (m : mg "_law_crowded" = some (.ref f)) (T : Fx K mg)   : Cal P w K mg base "_law_crowded" 1 ["_law_kept"] (sp_law_crowded K) := by
  refine ⟨f, fd, ?_, m, F.kp, F.bindsN fun _ _ _ _ _ _ us hl => match us, hl with | [_], _ => rfl⟩
  refine F.ok sc_law_crowded (fun vs H Q E h => by obtain ⟨kl, ks, rfl, hk, bk, k⟩ := h; rfl) (fun cdv A outer s H vs Q E hr h => ?_)
  obtain ⟨kl, ks, rfl, hk, bk, k⟩ := h
  have nd := sc_law_crowded.nd
  have hu := hu_of hr
  refine ⟨_, PSs.nox (pss_one (ps_ret (pe_op op_cat (pe_slice sl_list (pe_lc (own := [("_law_x", 1)]) (g := (gName 1)) (by rfl) nd (pi_list (pe_lst (pa_cons pe_str (pa_cons pe_str (pa_cons pe_str (pa_cons pe_str (pa_cons pe_str (pa_cons pe_str pa_nil)))))))) (blkOk_by (N := ["_law_kept", "_law_x"]) (sc := defScope s_law_crowded) (own := [("_law_x", 1)]) (by decide +kernel)) (fun _ _ _ _ _ => (pg_name (i := 1) nd rfl (Or.inl rfl) (.inr rfl))) (fun _ _ _ _ _ => pts_one (pt_cmpR (op_notIn_seq : OpR _ (compareOp .NotIn) (rIn K true)) (pv 1) (pv 0) (by rfl))) (fun _ _ _ _ _ => (pv 1))) po_none (po_some (pe_op op_sub pe_int (pe_callB call_len_seq (by rfl) T.n_len (by decide +kernel) (pa_cons (pv 0) pa_nil))))) (pv 0)))), ?_⟩
  refine ⟨szk, fun cl ncl => ⟨cl, rfl, ⟨_, .of upd_same⟩, fun D nD => ?_⟩⟩
  have e1 := Ex.new (o := .lst [.str "c", .str "cc", .str "cd", .str "d", .str "dd", .str "dc"]) ncl
  have hc : upd H cl (.lst [.str "c", .str "cc", .str "cd", .str "d", .str "dd", .str "dc"]) cl = some (.lst (vtx cands)) := by rw [upd_same, cands_txt]
  refine lc_pure (walk_list (xs := vtx cands)) (fun j => !inV (.str (cands.getD j k0).txt) (vtx ks)) (fun j => .str (cands.getD j k0).txt) (by decide) nD (fun H' e => .of (e _ _ hc)) (fun j x H' H2 Fin Fn hj e ⟨eh, hx⟩ fy fn => ?_) fun H' e2 hl => ?_
  · subst eh
    have hj' : j < cands.length := by rw [vtx_len] at hj; exact hj
    rw [vtx_get hj'] at hx
    cases hx
    rw [getD_of (List.getElem?_eq_getElem hj')] at fy fn
    refine ⟨rfl, _, rfl, _, rfl, kl, _, rfl, .inl (.of (e _ _ (e1 _ _ hk))), rfl, fl_vtx _, _, rfl, ?_⟩
    cases hin : inV (.str (cands[j]).txt) (vtx ks) with
    | true =>
      rw [hin] at fn
      exact iteF (fn rfl _ (Ex.refl _))
    | false =>
      rw [hin] at fy
      exact iteT ⟨_, rfl, fy rfl _ (Ex.refl _)⟩
  · have eF : Evl.given (vtx cands).length (fun j => !inV (.str (cands.getD j k0).txt) (vtx ks)) (fun j => .str (cands.getD j k0).txt) = vtx (cands.filter fun p => !inV (.str p.txt) (vtx ks)) := by
      unfold Evl.given
      rw [vtx_len, ← filter_get k0 cands fun p => !inV (.str p.txt) (vtx ks)]
      show _ = List.map (fun p : Pt => V.str p.txt) (List.map _ _)
      rw [List.map_map]
      rfl
    rw [eF] at hl
    have hk2 := e2 _ _ (e1 _ _ hk)
    generalize hF : (cands.filter fun p => !inV (.str p.txt) (vtx ks)) = F at hl
    have hFm : ∀ p ∈ F, p ∈ cands ∧ inV (.str p.txt) (vtx ks) = false := fun p hp => by
      rw [← hF] at hp
      obtain ⟨a, b⟩ := List.mem_filter.mp hp
      exact ⟨a, by simpa using b⟩
    have hFs : F.Sublist cands := by rw [← hF]; exact List.filter_sublist
    have hFl : F.length ≤ 6 := hFs.length_le
    have b8 := bk.le
    refine ⟨_, rfl, _, _, rfl, .inl (.of hk2), _, _, rfl, rfl, _, rfl, D, _, rfl, .of hl, fun s ns => ?_⟩
    have hs : upd H' s (.lst (cutV (vtx F) none (some ((8 : Int) - ((vtx ks).length : Nat))))) s = some (.lst (vtx (F.take (8 - ks.length)))) := by
      rw [upd_same, vtx_len, show (8 : Int) - (ks.length : Nat) = ((8 - ks.length : Nat) : Int) by omega, vtx, cutV_map, cutL_to]
      rfl
    have htl : (F.take (8 - ks.length)).length ≤ 8 - ks.length := List.length_take_le _ _
    refine ⟨_, rfl, s, kl, _, _, rfl, rfl, hs, at_new hk2 ns, by rw [vtx_len, vtx_len]; exact sz3 (by omega), fun l nl => ?_⟩
    refine k _ l (F.take (8 - ks.length) ++ ks) (fresh (e1.trans (ex_new e2 ns)) nl) (ex_new (e1.trans (ex_new e2 ns)) nl) ?_ ⟨fun p hp => ?_, ?_, ?_⟩
    · rw [upd_same, vtx, vtx, vtx, List.map_append]
    · rcases List.mem_append.mp hp with h | h
      · exact cands_ok p (hFm p (List.mem_of_mem_take h)).1
      · exact bk.ok p h
    · rw [List.map_append, List.nodup_append]
      refine ⟨?_, bk.nd, fun x hx y hy q => ?_⟩
      · have nd : (cands.map Pt.cs).Nodup := by
          rw [cands_cs]
          decide
        exact nd.sublist (((List.take_sublist _ _).trans hFs).map _)
      · obtain ⟨p, hp, rfl⟩ := List.mem_map.mp hx
        exact not_inV (hFm p (List.mem_of_mem_take hp)).2 (by rw [q]; exact hy)
    · rw [List.length_append]
      omega
end
end K21
end

/-! K21W20 -/
section
set_option Elab.async false
set_option linter.all false
set_option maxRecDepth 100000
set_option maxHeartbeats 4000000
/-! unlike things -/
namespace K21
open PySem PySem.Spec PyProof.Rows L2
open Evl (Ex ex_l ex_t)
theorem keys_new {κ : Type} [DecidableEq κ] {kvs : List (κ × V)} {k : κ} {v : V} (h : k ∉ kvs.map (·.1)) : putK kvs k v = kvs ++ [(k, v)] := by
  unfold putK
  rw [if_neg]
  intro q
  obtain ⟨kv, m, e⟩ := List.any_eq_true.mp q
  exact h (List.mem_map.mpr ⟨kv, m, of_decide_eq_true e⟩)
def keyT (q : Nat × Nat) : List Key := [.inl (q.1 : Int), .inl (q.2 : Int)]
def prI (q : Nat × Nat) : List V := [.int (q.1 : Nat), .int (q.2 : Nat)]
theorem keyT_inj {a b : Nat × Nat} (h : keyT a = keyT b) : a = b := by
  unfold keyT at h
  injection h with h1 h2
  injection h2 with h2 _
  injection h1 with h1
  injection h2 with h2
  exact Prod.ext (by omega) (by omega)
def vnt (ns : List Nat) : List V := ns.map fun m => V.int (m : Nat)
theorem vnt_len (ns : List Nat) : (vnt ns).length = ns.length := List.length_map ..
theorem nd_at {α : Type} {l : List α} (h : l.Nodup) {i : Nat} (hi : i < l.length) : l[i] ∉ l.take i := fun m => by
  rw [← List.take_append_drop i l, List.drop_eq_getElem_cons hi, List.nodup_append] at h
  exact h.2.2 _ m _ List.mem_cons_self rfl
def sp_are_unlike (K : PySem.W.Frag) : Sp := fun vs H Q _ => ∃ (a : Addr) (ns : List Nat), vs = [.ref a] ∧ H a = some (.lst (vnt ns)) ∧ ns.Nodup ∧ ns.length ≤ 10000 ∧ RetV (.bl true) H Q
def sp_are_unlikeT (K : PySem.W.Frag) : Sp := fun vs H Q _ => ∃ (a : Addr) (ys : List V) (ps : List (Nat × Nat)), vs = [.ref a] ∧ H a = some (.lst ys) ∧ Tups H ys (ps.map prI) ∧ ps.Nodup ∧ ps.length ≤ 10000 ∧ RetV (.bl true) H Q
section
variable {P : Program} {w : World} {K : PySem.W.Frag} {mg : Str → Option Value} {base : Heap} {C CL : Addr}
-- are_unlike: 0:things, 1:thing
theorem sc_are_unlike : FnScope ["things", "thing"] ["things"] (defScope s_are_unlike) := ⟨rfl, rfl, rfl, by decide +kernel, rfl, by decide +kernel, by decide +kernel⟩
theorem ok_are_unlike {f : Addr} {fd : FuncData} (F : FnP K "are_unlike" "are_unlike" s_are_unlike f fd) (m : mg "are_unlike" = some (.ref f)) (T : Fx K mg)   : Cal P w K mg base "are_unlike" 1 ["things"] (sp_are_unlike K) := by
  refine ⟨f, fd, ?_, m, F.kp, F.bindsN fun _ _ _ _ _ _ us hl => match us, hl with | [_], _ => rfl⟩
  refine F.ok sc_are_unlike (fun vs H Q E h => by obtain ⟨a, ns, rfl, ha, nn, hz, k⟩ := h; rfl) (fun cdv A outer s H vs Q E hr h => ?_)
  obtain ⟨a, ns, rfl, ha, nn, hz, k⟩ := h
  have nd := sc_are_unlike.nd
  have hu := hu_of hr
  refine ⟨_, PSs.nox (pss_one (ps_ret (pe_cmpR op_eq (pe_callB call_lenD (by rfl) T.n_len (by decide +kernel) (pa_cons (pe_dc (own := [("thing", 1)]) (g := (gName 1)) (by rfl) nd (pi_list (pv 0)) (blkOk_by (N := ["things", "thing"]) (sc := defScope s_are_unlike) (own := [("thing", 1)]) (by decide +kernel)) (fun _ _ _ _ _ => (pg_name (i := 1) nd rfl (Or.inl rfl) (.inr rfl))) (fun _ _ _ _ _ => pts_nil) (fun _ _ _ _ _ => (pv 1)) (fun _ _ _ _ _ => pe_bl)) pa_nil)) (pe_callB call_len_seq (by rfl) T.n_len (by decide +kernel) (pa_cons (pv 0) pa_nil)) (nomark _)))), ?_⟩
  refine ⟨_, rfl, a, rfl, ⟨_, .of ha⟩, fun D nD => dc_it (walk_list (xs := vnt ns)) (fun i H' => Ex H H' ∧ ∃ kvs, H' D = some (.dK kvs) ∧ kvs.map (·.1) = (ns.take i).map (fun m => Sum.inl ((m : Nat) : Int))) ⟨Ex.new nD, [], upd_same, rfl⟩ (fun i H' _ pv => .of (pv.1 _ _ ha)) ?_ ?_⟩
  · rintro i x H0 H' hi ⟨e, kvs, hD, hk⟩ ⟨rfl, hx⟩
    rw [vnt_len] at hi
    rw [vnt, List.getElem?_map, List.getElem?_eq_getElem hi] at hx
    cases hx
    have hl : kvs.length = i := by
      have := congrArg List.length hk
      rw [List.length_map, List.length_map, List.length_take] at this
      omega
    have hn : (Sum.inl ((ns[i] : Nat) : Int) : Key) ∉ kvs.map (·.1) := by
      rw [hk]
      intro m
      obtain ⟨y, hy, e⟩ := List.mem_map.mp m
      injection e with e
      exact nd_at nn hi (by rw [show ns[i] = y by omega]; exact hy)
    refine ⟨rfl, tyes ⟨_, rfl, kvs, .inl ((ns[i] : Nat) : Int), rfl, hD, small_len (by omega), ex_upd e nD, _, upd_same, ?_⟩⟩
    rw [keys_new hn, List.map_append, hk, List.take_add_one, List.getElem?_eq_getElem hi, List.map_append]
    rfl
  · rintro H' ⟨e, kvs, hD, hk⟩
    have hl : kvs.length = ns.length := by
      have := congrArg List.length hk
      rw [List.length_map, List.length_map, vnt_len, List.length_take] at this
      omega
    refine ⟨D, kvs, rfl, hD, _, rfl, _, _, rfl, .inl (.of (e _ _ ha)), rfl, ?_⟩
    rw [hl, vnt_len, decide_eq_true rfl]
    exact k H' e
-- are_unlike: 0:things, 1:thing
theorem sc_are_unlikeT : FnScope ["things", "thing"] ["things"] (defScope s_are_unlike) := ⟨rfl, rfl, rfl, by decide +kernel, rfl, by decide +kernel, by decide +kernel⟩
theorem ok_are_unlikeT {f : Addr} {fd : FuncData} (F : FnP K "are_unlike" "are_unlike" s_are_unlike f fd) (m : mg "are_unlike" = some (.ref f)) (T : Fx K mg)   : Cal P w K mg base "are_unlike" 1 ["things"] (sp_are_unlikeT K) := by
  refine ⟨f, fd, ?_, m, F.kp, F.bindsN fun _ _ _ _ _ _ us hl => match us, hl with | [_], _ => rfl⟩
  refine F.ok sc_are_unlikeT (fun vs H Q E h => by obtain ⟨a, ys, ps, rfl, ha, hT, nn, hz, k⟩ := h; rfl) (fun cdv A outer s H vs Q E hr h => ?_)
  obtain ⟨a, ys, ps, rfl, ha, hT, nn, hz, k⟩ := h
  have nd := sc_are_unlikeT.nd
  have hu := hu_of hr
  refine ⟨_, PSs.nox (pss_one (ps_ret (pe_cmpR op_eq (pe_callB call_len_dT (by rfl) T.n_len (by decide +kernel) (pa_cons (pe_dcT (own := [("thing", 1)]) (g := (gName 1)) (by rfl) hr.units0 nd (pi_list (pv 0)) (blkOk_by (N := ["things", "thing"]) (sc := defScope s_are_unlike) (own := [("thing", 1)]) (by decide +kernel)) (fun _ _ _ _ _ => (pg_name (i := 1) nd rfl (Or.inl rfl) (.inr rfl))) (fun _ _ _ _ _ => pts_nil) (fun _ _ _ _ _ => (pv 1)) (fun _ _ _ _ _ => pe_bl)) pa_nil)) (pe_callB call_len_seq (by rfl) T.n_len (by decide +kernel) (pa_cons (pv 0) pa_nil)) (nomark _)))), ?_⟩
  have hyl := hT.1
  rw [List.length_map] at hyl
  refine ⟨_, rfl, a, rfl, ⟨_, .of ha⟩, fun D nD => dcT_it (walk_list (xs := ys)) (fun i H' => Ex H H' ∧ ∃ kvs, H' D = some (.dT kvs) ∧ kvs.map (·.1) = (ps.take i).map keyT) ⟨Ex.new nD, [], upd_same, rfl⟩ (fun i H' _ pv => .of (pv.1 _ _ ha)) ?_ ?_⟩
  · rintro i x H0 H' hi ⟨e, kvs, hD, hk⟩ ⟨rfl, hx⟩
    have hip : i < ps.length := by omega
    obtain ⟨t, rfl, ht⟩ := hT.2 i x (prI ps[i]) hx (by rw [List.getElem?_map, List.getElem?_eq_getElem hip]; rfl)
    have hl : kvs.length = i := by
      have := congrArg List.length hk
      rw [List.length_map, List.length_map, List.length_take] at this
      omega
    have hn : keyT ps[i] ∉ kvs.map (·.1) := by
      rw [hk]
      intro m
      obtain ⟨y, hy, e⟩ := List.mem_map.mp m
      exact nd_at nn hip (by rw [keyT_inj e.symm]; exact hy)
    refine ⟨rfl, tyes ⟨_, rfl, kvs, keyT ps[i], t, rfl, e _ _ ht, hD, small_len (by omega), ex_upd e nD, _, upd_same, ?_⟩⟩
    rw [keys_new hn, List.map_append, hk, List.take_add_one, List.getElem?_eq_getElem hip, List.map_append]
    rfl
  · rintro H' ⟨e, kvs, hD, hk⟩
    have hl : kvs.length = ys.length := by
      have := congrArg List.length hk
      rw [List.length_map, List.length_map, List.length_take] at this
      omega
    refine ⟨D, kvs, rfl, hD, _, rfl, _, _, rfl, .inl (.of (e _ _ ha)), rfl, ?_⟩
    rw [hl, decide_eq_true rfl]
    exact k H' e
end
end K21
end

/-! K21W21 -/
section
set_option Elab.async false
set_option linter.all false
set_option maxRecDepth 100000
set_option maxHeartbeats 4000000
/-! links and kinds of a store -/
namespace K21
open PySem PySem.Spec PyProof.Rows L2
open Evl (Ex ex_l ex_t)
/-- the pair that a value is -/
def decP (H : Hp) (v : V) : Nat × Nat := match v with
  | .ref t => match H t with
    | some (.tup [.int i, .int j]) => (i.toNat, j.toNat)
    | _ => (0, 0)
  | _ => (0, 0)
theorem decP_of {H : Hp} {t : Addr} {q : Nat × Nat} (h : H t = some (.tup (prI q))) : decP H (.ref t) = q := by
  unfold decP prI at *
  simp only [h]
  exact Prod.ext (Int.toNat_natCast _) (Int.toNat_natCast _)
theorem decP_map {H : Hp} {ys : List V} {ps : List (Nat × Nat)} (h : Tups H ys (ps.map prI)) : ys.map (decP H) = ps := by
  have hl := h.1
  rw [List.length_map] at hl
  refine List.ext_getElem (by rw [List.length_map]; exact hl) fun i h1 h2 => ?_
  rw [List.length_map] at h1
  obtain ⟨t, e1, e2⟩ := h.2 i ys[i] (prI ps[i]) (List.getElem?_eq_getElem h1) (by rw [List.getElem?_map, List.getElem?_eq_getElem h2]; rfl)
  rw [List.getElem_map, e1]
  exact decP_of e2
theorem tups_perm {H : Hp} {ys zs : List V} {ps : List (Nat × Nat)} (h : Tups H ys (ps.map prI)) (q : zs.Perm ys) : Tups H zs ((zs.map (decP H)).map prI) := by
  refine ⟨by rw [List.length_map, List.length_map], fun j y f h1 h2 => ?_⟩
  obtain ⟨i, hi, e⟩ := List.getElem_of_mem (q.subset (List.mem_of_getElem? h1))
  have hl := h.1
  rw [List.length_map] at hl
  have hi2 : i < ps.length := by omega
  obtain ⟨t, e1, e2⟩ := h.2 i y (prI ps[i]) (by rw [List.getElem?_eq_getElem hi, e]) (by rw [List.getElem?_map, List.getElem?_eq_getElem hi2]; rfl)
  refine ⟨t, e1, ?_⟩
  rw [List.getElem?_map, List.getElem?_map, h1] at h2
  cases h2
  rw [e1, decP_of e2]
  exact e2
/-- any answer -/
def AnyV (H : Hp) (Q : VK) : Prop := ∀ (H' : Hp) (v : V), Ex H H' → Q v H'
def sp_checked_pairs (K : PySem.W.Frag) : Sp := fun vs H Q _ => ∃ (a : Addr) (n : Nat) (l : Str) (ys : List V) (ps : List (Nat × Nat)), vs = [.str "any", .int (n : Nat), .ref a, .str l] ∧ H a = some (.lst ys) ∧ Tups H ys (ps.map prI) ∧ ps.Nodup ∧ ps.length ≤ 10000 ∧ (∀ q ∈ ps, q.1 < n ∧ q.2 < n) ∧ AnyV H Q
def sp_checked_things (K : PySem.W.Frag) : Sp := fun vs H Q _ => ∃ (a : Addr) (n : Nat) (l : Str) (ns : List Nat), vs = [.int (n : Nat), .ref a, .str l] ∧ H a = some (.lst (vnt ns)) ∧ ns.Nodup ∧ ns.length ≤ 10000 ∧ (∀ q ∈ ns, q < n) ∧ AnyV H Q
section
variable {P : Program} {w : World} {K : PySem.W.Frag} {mg : Str → Option Value} {base : Heap} {C CL : Addr}
-- checked_pairs: 0:manner, 1:many, 2:pairs, 3:letter, 4:pair, 5:found, 6:is_right, 7:thing  cells: many
theorem sc_checked_pairs : FnScope ["manner", "many", "pairs", "letter", "pair", "found", "is_right", "thing"] ["manner", "many", "pairs", "letter"] (defScope s_checked_pairs) := ⟨rfl, rfl, rfl, by decide +kernel, rfl, by decide +kernel, by decide +kernel⟩
theorem ok_checked_pairs {f : Addr} {fd : FuncData} (F : FnP K "checked_pairs" "checked_pairs" s_checked_pairs f fd) (m : mg "checked_pairs" = some (.ref f)) (T : Fx K mg)  (C_are_unlike : Cal P w K mg base "are_unlike" 1 ["things"] (sp_are_unlikeT K)) (C_is_list : Cal P w K mg base "is_list" 1 ["thing"] (sp_is_list K)) (C_is_thing : Cal P w K mg base "is_thing" 2 ["thing", "many"] (sp_is_thing K)) : Cal P w K mg base "checked_pairs" 3 ["manner", "many", "pairs", "letter"] (sp_checked_pairs K) := by
  refine ⟨f, fd, ?_, m, F.kp, F.bindsN fun _ _ _ _ _ _ us hl => match us, hl with | [_, _, _, _], _ => rfl⟩
  refine F.ok sc_checked_pairs (fun vs H Q E h => by obtain ⟨a, n, l, ys, ps, rfl, ha, hT, nn, hz, hb, k⟩ := h; rfl) (fun cdv A outer s H vs Q E hr h => ?_)
  obtain ⟨a, n, l, ys, ps, rfl, ha, hT, nn, hz, hb, k⟩ := h
  have nd := sc_checked_pairs.nd
  have hu := hu_of hr
  refine ⟨_, PSs.nox (pss_cons (ps_if (pt_not (pt_val (pe_cal C_is_list (hr.mono (by decide)) (by rfl) (pa_cons (pv 2) pa_nil))))
        pss_never
        pss_nil) -- if not is_list(pairs):
      (pss_cons (ps_for PassesOwn.never rfl (pi_list (pv 2)) (pg_name (i := 4) nd rfl (Or.inl rfl))
        (pss_one (ps_if (PW.pt (pw_or (pt_not (pt_val (pe_cal C_is_list (hr.mono (by decide)) (by rfl) (pa_cons (pv 4) pa_nil)))) (pw_or (pt_cmpR op_ne (pe_callB call_len_seq (by rfl) T.n_len (by decide +kernel) (pa_cons (pv 4) pa_nil)) pe_int (nomark _)) (pw_or1 (pt_not (pt_val (pe_callB (cr_all rfl) (by rfl) T.n_all (by decide +kernel) (pa_cons (pe_lc (own := [("thing", 7)]) (g := (gName 7)) (by rfl) nd (pi_tup (pv 4)) (blkOk_by (N := ["manner", "many", "pairs", "letter", "pair", "found", "is_right", "thing"]) (sc := defScope s_checked_pairs) (own := [("thing", 7)]) (by decide +kernel)) (fun _ _ _ _ _ => (pg_name (i := 7) nd rfl (Or.inl rfl) (.inr rfl))) (fun _ _ _ _ _ => pts_nil) (fun _ _ _ _ _ => (pe_cal C_is_thing (hr.mono (by decide)) (by rfl) (pa_cons (pv 7) (pa_cons (pv 1) pa_nil))))) pa_nil))))))))
          pss_never
          pss_nil))) -- for pair in pairs:
      (pss_cons (ps_set (i := 5) nd rfl (Or.inl rfl) (pe_callB (cr_sortedP) (by rfl) T.n_sorted (by decide +kernel) (pa_cons (pe_lc (own := [("pair", 4)]) (g := (gName 4)) (by rfl) nd (pi_list (pv 2)) (blkOk_by (N := ["manner", "many", "pairs", "letter", "pair", "found", "is_right", "thing"]) (sc := defScope s_checked_pairs) (own := [("pair", 4)]) (by decide +kernel)) (fun _ _ _ _ _ => (pg_name (i := 4) nd rfl (Or.inl rfl) (.inr rfl))) (fun _ _ _ _ _ => pts_nil) (fun _ _ _ _ _ => (pe_callTy (call_tupleT : CallR _ (.type "tuple") (fun xs H Q => ∃ a ys, xs = [.ref a] ∧ SqT K H a ys ∧ Q (.ref a) H)) (by rfl) T.n_tuple (by decide +kernel) (pa_cons (pv 4) pa_nil)))) pa_nil))) -- found = sorted([tuple(pair) for pair in pairs])
      (pss_cons (ps_set (i := 6) nd rfl (Or.inl rfl) (pe_cal C_are_unlike (hr.mono (by decide)) (by rfl) (pa_cons (pv 5) pa_nil))) -- is_right = are_unlike(found)
      (pss_cons (ps_if (pt_cmpR op_ne (pv 0) pe_str (nomark _))
        pss_never
        pss_nil) -- if manner != 'any':
      (pss_cons (ps_if (PW.pt (pw_or (pt_not (pt_val (pv 6))) (pw_or1 (PW.pt (pw_and (pt_cmpR op_eq (pv 0) pe_str (nomark _)) (pw_and1 (pt_cmpR op_ne (pe_callB call_len_seq (by rfl) T.n_len (by decide +kernel) (pa_cons (pv 5) pa_nil)) (pv 1) (nomark _))))))))
        pss_never
        pss_nil) -- if not is_right or (manner == 'turned' and len(found) != many):
      (pss_one (ps_ret (pv 5))))))))), ?_⟩
  have hyl := hT.1
  rw [List.length_map] at hyl
  refine ⟨_, rfl, a, "list", rfl, .inl rfl, .base (.lst ha), fun p o np => .base (.lst (at_new ha np)), fun H1 e1 => ⟨_, rfl, iteF ?_⟩⟩
  refine ⟨_, rfl, a, rfl, ⟨_, .of (e1 _ _ ha)⟩, ?_⟩
  refine for_it (walk_list (xs := ys)) (fun i σ H' => Ex H H' ∧ ∃ x4 x5 x6 x7, σ = [some (.str "any"), some (.int (n : Nat)), some (.ref a), some (.str l), x4, x5, x6, x7]) ⟨e1, _, _, _, _, rfl⟩ (fun i σ H' _ pv => .of (pv.1 _ _ ha)) ?_ ?_
  · rintro i x σ H0 H' hi ⟨e, x4, x5, x6, x7, rfl⟩ ⟨rfl, hx⟩
    have hip : i < ps.length := by omega
    obtain ⟨t, rfl, ht0⟩ := hT.2 i x (prI ps[i]) hx (by rw [List.getElem?_map, List.getElem?_eq_getElem hip]; rfl)
    have ht := e _ _ ht0
    have hq := hb _ (List.getElem_mem hip)
    generalize ps[i] = q at *
    refine ⟨_, rfl, t, "tuple", rfl, .inr rfl, .base (.tup ht), fun p o np => .base (.tup (at_new ht np)), fun H1 e1 => ⟨_, rfl, iteF ?_⟩⟩
    refine ⟨_, rfl, _, _, rfl, .inr (.of (e1 _ _ ht)), rfl, _, rfl, iteNS (x := V.int 2) ?_⟩
    refine ⟨_, rfl, t, rfl, ⟨_, .of (e1 _ _ ht)⟩, fun D nD => lc_allT (walk_tup (xs := prI q)) (by show 2 ≤ 100000; decide) nD (fun H' e => ex_t e (.of (e1 _ _ ht))) (fun i x H' H2 Fin hi e ⟨eh, hx⟩ fy => ?_) fun H2 e2 => ⟨_, rfl, iteF ⟨(e.trans e1).trans e2, _, _, _, _, rfl⟩⟩⟩
    subst eh
    have hm := List.mem_of_getElem? hx
    unfold prI at hm
    rcases List.mem_cons.mp hm with rfl | hm
    · exact ⟨rfl, _, rfl, _, rfl, ((q.1 : Nat) : Int), ((n : Nat) : Int), rfl, by omega, by omega, fun H4 e4 => fy H4 e4⟩
    · rw [List.mem_singleton.mp hm]
      exact ⟨rfl, _, rfl, _, rfl, ((q.2 : Nat) : Int), ((n : Nat) : Int), rfl, by omega, by omega, fun H4 e4 => fy H4 e4⟩
  · rintro σ H' ⟨e, x4, x5, x6, x7, rfl⟩
    have hTe := hT.ex e
    refine ⟨_, rfl, a, rfl, ⟨_, .of (e _ _ ha)⟩, fun D nD => lc_map (walk_list (xs := ys)) (fun i => ys.getD i .non) (by omega) nD (fun H2 e2 => .of (e2 _ _ (e _ _ ha))) (fun i x H1 H2 Fin hi e1 ⟨eh, hx⟩ fy => ?_) fun H2 e2 hD => ?_⟩
    · subst eh
      have hip : i < ps.length := by omega
      obtain ⟨t, rfl, ht0⟩ := hTe.2 i x (prI ps[i]) hx (by rw [List.getElem?_map, List.getElem?_eq_getElem hip]; rfl)
      rw [getD_of hx] at fy
      exact ⟨rfl, _, rfl, t, _, rfl, .of (e1 _ _ ht0), fy _ (Ex.refl _)⟩
    rw [range_get] at hD
    have hT2 := hTe.ex e2
    refine ⟨D, ys, rfl, .of hD, fun x hx => ?_, fun zs p perm np => ?_⟩
    · obtain ⟨i, hi, rfl⟩ := List.getElem_of_mem hx
      have hip : i < ps.length := by omega
      obtain ⟨t, e5, ht0⟩ := hT2.2 i ys[i] (prI ps[i]) (List.getElem?_eq_getElem hi) (by rw [List.getElem?_map, List.getElem?_eq_getElem hip]; rfl)
      exact ⟨t, _, _, e5, ht0⟩
    · have hpp : (zs.map (decP H2)).Perm ps := by
        have := perm.map (decP H2)
        rw [decP_map hT2] at this
        exact this
      refine ⟨_, rfl, p, zs, zs.map (decP H2), rfl, upd_same, (tups_perm hT2 perm).ex (Ex.new np), hpp.nodup_iff.mpr nn, by rw [hpp.length_eq]; exact hz, fun H3 e3 => ?_⟩
      refine ⟨_, rfl, rfl, _, rfl, iteNS ?_⟩
      refine ⟨_, rfl, _, rfl, iteF ⟨_, rfl, rfl, _, rfl, iteN (by decide +kernel) (iteF ?_)⟩⟩
      exact ⟨_, rfl, k _ _ (((e.trans e2).trans (Ex.new np)).trans e3)⟩
-- checked_things: 0:many, 1:things, 2:digit, 3:thing  cells: many
theorem sc_checked_things : FnScope ["many", "things", "digit", "thing"] ["many", "things", "digit"] (defScope s_checked_things) := ⟨rfl, rfl, rfl, by decide +kernel, rfl, by decide +kernel, by decide +kernel⟩
theorem ok_checked_things {f : Addr} {fd : FuncData} (F : FnP K "checked_things" "checked_things" s_checked_things f fd) (m : mg "checked_things" = some (.ref f)) (T : Fx K mg)  (C_is_list : Cal P w K mg base "is_list" 1 ["thing"] (sp_is_list K)) (C_are_unlike : Cal P w K mg base "are_unlike" 1 ["things"] (sp_are_unlike K)) (C_is_thing : Cal P w K mg base "is_thing" 2 ["thing", "many"] (sp_is_thing K)) : Cal P w K mg base "checked_things" 3 ["many", "things", "digit"] (sp_checked_things K) := by
  refine ⟨f, fd, ?_, m, F.kp, F.bindsN fun _ _ _ _ _ _ us hl => match us, hl with | [_, _, _], _ => rfl⟩
  refine F.ok sc_checked_things (fun vs H Q E h => by obtain ⟨a, n, l, ns, rfl, ha, nn, hz, hb, k⟩ := h; rfl) (fun cdv A outer s H vs Q E hr h => ?_)
  obtain ⟨a, n, l, ns, rfl, ha, nn, hz, hb, k⟩ := h
  have nd := sc_checked_things.nd
  have hu := hu_of hr
  refine ⟨_, PSs.nox (pss_cons (ps_if (PW.pt (pw_or (pt_not (pt_val (pe_cal C_is_list (hr.mono (by decide)) (by rfl) (pa_cons (pv 1) pa_nil)))) (pw_or (pt_not (pt_val (pe_callB (cr_all rfl) (by rfl) T.n_all (by decide +kernel) (pa_cons (pe_lc (own := [("thing", 3)]) (g := (gName 3)) (by rfl) nd (pi_list (pv 1)) (blkOk_by (N := ["many", "things", "digit", "thing"]) (sc := defScope s_checked_things) (own := [("thing", 3)]) (by decide +kernel)) (fun _ _ _ _ _ => (pg_name (i := 3) nd rfl (Or.inl rfl) (.inr rfl))) (fun _ _ _ _ _ => pts_nil) (fun _ _ _ _ _ => (pe_cal C_is_thing (hr.mono (by decide)) (by rfl) (pa_cons (pv 3) (pa_cons (pv 0) pa_nil))))) pa_nil)))) (pw_or1 (pt_not (pt_val (pe_cal C_are_unlike (hr.mono (by decide)) (by rfl) (pa_cons (pe_callTy call_list_of (by rfl) T.n_list (by decide +kernel) (pa_cons (pv 1) pa_nil)) pa_nil))))))))
        pss_never
        pss_nil) -- if not is_list(things) or not all([is_thing(thing, many) for thing in things]) or (not are_unlike(list(things))):
      (pss_one (ps_ret (pe_callB cr_sortedI (by rfl) T.n_sorted (by decide +kernel) (pa_cons (pv 1) pa_nil))))), ?_⟩
  refine ⟨_, rfl, a, "list", rfl, .inl rfl, .base (.lst ha), fun p o np => .base (.lst (at_new ha np)), fun H1 e1 => ⟨_, rfl, iteF ?_⟩⟩
  refine ⟨_, rfl, a, rfl, ⟨_, .of (e1 _ _ ha)⟩, fun D nD => lc_allT (walk_list (xs := vnt ns)) (by rw [vnt_len]; omega) nD (fun H' e => .of (e _ _ (e1 _ _ ha))) (fun i x H' H2 Fin hi e ⟨eh, hx⟩ fy => ?_) fun H2 e2 => ⟨_, rfl, iteF ?_⟩⟩
  · subst eh
    obtain ⟨m, hm, rfl⟩ := List.mem_map.mp (List.mem_of_getElem? hx)
    have := hb m hm
    exact ⟨rfl, _, rfl, _, rfl, ((m : Nat) : Int), ((n : Nat) : Int), rfl, by omega, by omega, fun H4 e4 => fy H4 e4⟩
  have ha2 := e2 _ _ (e1 _ _ ha)
  refine ⟨_, rfl, a, _, rfl, .inl (.of ha2), fun l nl => ⟨l, ns, rfl, upd_same, nn, hz, fun H3 e3 => ⟨_, rfl, iteF ?_⟩⟩⟩
  refine ⟨_, rfl, a, ns.map fun m => ((m : Nat) : Int), rfl, ?_, fun ns' p _ _ np => k _ _ (((e1.trans e2).trans (Ex.new nl)).trans (e3.trans (Ex.new np)))⟩
  rw [List.map_map]
  exact .of (e3 _ _ (at_new ha2 nl))
end
end K21
end

/-! K21W22 -/
section
set_option Elab.async false
set_option linter.all false
set_option maxRecDepth 100000
set_option maxHeartbeats 4000000
/-! a store is made -/
namespace K21
open PySem PySem.Spec PyProof.Rows L2
open Evl (Ex ex_l ex_t)
abbrev FnP1 (K : PySem.W.Frag) (x qual : Str) (st : Stmt) (f : Addr) (fd : FuncData) : Prop := FunD K x qual (defArgs st) (defBody st) (defScope st) [.non] [] f fd
theorem valV_nd {κ : Type} [DecidableEq κ] : ∀ {kvs : List (κ × V)} {i : Nat} {k : κ} {v : V}, (kvs.map (·.1)).Nodup → kvs[i]? = some (k, v) → valV kvs k = some v
  | [], _, _, _, _, h => by cases h
  | p :: r, 0, k, v, _, h => by
    cases h
    exact valV_pos rfl
  | p :: r, i + 1, k, v, nd, h => by
    have h : r[i]? = some (k, v) := h
    obtain ⟨n1, n2⟩ := List.nodup_cons.mp nd
    rw [valV_neg (fun e => n1 (List.mem_map.mpr ⟨_, List.mem_of_getElem? h, e.symm⟩))]
    exact valV_nd n2 h
theorem lock_on {H0 H : Hp} {d : Addr} {f : HO} (e : Ex H0 H) : Ex (upd H0 d f) (upd H d f) := fun a u h => by
  by_cases q : a = d
  · rw [q, upd_same] at h
    rw [q, upd_same]
    exact h
  · rw [upd_ne q] at h
    rw [upd_ne q]
    exact e a u h
theorem lock_off {H0 H : Hp} {d : Addr} {f u : HO} (h0 : H0 d = some u) (e : Ex (upd H0 d f) H) : Ex H0 (upd H d u) := fun a w h => by
  by_cases q : a = d
  · rw [q, h0] at h
    rw [q, upd_same]
    exact h
  · rw [upd_ne q]
    exact e a w (by rw [upd_ne q]; exact h)
theorem iteNN {x y : V} {A B : Prop} (n : x ≠ y) (h : A) : if (!decide (x = y)) = true then A else B := by
  rw [decide_eq_false n]
  exact iteT h
/-- links: small letters, lists of unlike pairs -/
def LkAt (H : Hp) (ld : Addr) (n : Nat) : Prop := ∃ lk : List (Key × V), H ld = some (.dK lk) ∧ lk.length ≤ 100 ∧ (lk.map (·.1)).Nodup ∧ ∀ (i : Nat) (k : Key) (v : V), lk[i]? = some (k, v) →
  ∃ (c : Nat) (a : Addr) (ys : List V) (ps : List (Nat × Nat)), k = .inr ⟨#[c]⟩ ∧ (97 ≤ c ∧ c ≤ 122) ∧ v = .ref a ∧ H a = some (.lst ys) ∧ Tups H ys (ps.map prI) ∧ ps.Nodup ∧ ps.length ≤ 10000 ∧ ∀ q ∈ ps, q.1 < n ∧ q.2 < n
/-- kinds: digits, lists of unlike things -/
def KdAt (H : Hp) (kd : Addr) (n : Nat) : Prop := ∃ lk : List (Key × V), H kd = some (.dK lk) ∧ lk.length ≤ 100 ∧ (lk.map (·.1)).Nodup ∧ ∀ (i : Nat) (k : Key) (v : V), lk[i]? = some (k, v) →
  ∃ (c : Nat) (a : Addr) (ns : List Nat), k = .inr ⟨#[c]⟩ ∧ (48 ≤ c ∧ c ≤ 57) ∧ v = .ref a ∧ H a = some (.lst (vnt ns)) ∧ ns.Nodup ∧ ns.length ≤ 10000 ∧ ∀ q ∈ ns, q < n
/-- the class Store -/
structure ClS (K : PySem.W.Frag) (C : Addr) : Prop where
  cls : Cls K C
  n_manner : NoAttr K C "manner"
  n_many : NoAttr K C "many"
  n_link : NoAttr K C "link_lists"
  n_kind : NoAttr K C "kind_lists"
def sp_Store_init (K : PySem.W.Frag) (C : Addr) : Sp := fun vs H Q _ => ∃ (x ld kd dx : Addr) (n : Nat) (H0 : Hp), vs = [.ref x, .str "any", .int (n : Nat), .ref ld, .ref kd] ∧ 1 ≤ n ∧ H x = some (.ins C dx []) ∧ H0 x = none ∧ Ex H0 H ∧ LkAt H0 ld n ∧ KdAt H0 kd n ∧ ∀ H', Ex H0 H' → Q .non H'
section
variable {P : Program} {w : World} {K : PySem.W.Frag} {mg : Str → Option Value} {base : Heap} {C CL : Addr}
-- Store.__init__: 0:self, 1:manner, 2:many, 3:links, 4:kinds, 5:letter, 6:digit
theorem sc_Store_init : FnScope ["self", "manner", "many", "links", "kinds", "letter", "digit"] ["self", "manner", "many", "links", "kinds"] (defScope s_Store_init) := ⟨rfl, rfl, rfl, by decide +kernel, rfl, by decide +kernel, by decide +kernel⟩
theorem ok_Store_init {f : Addr} {fd : FuncData} (F : FnP1 K "__init__" "Store.__init__" s_Store_init f fd) (T : Fx K mg) (B : ClS K C) (C_is_manner : Cal P w K mg base "is_manner" 1 ["thing"] (sp_is_manner K)) (C_checked_pairs : Cal P w K mg base "checked_pairs" 3 ["manner", "many", "pairs", "letter"] (sp_checked_pairs K)) (C_checked_things : Cal P w K mg base "checked_things" 3 ["many", "things", "digit"] (sp_checked_things K)) (C_is_integer : Cal P w K mg base "is_integer" 1 ["thing"] (sp_is_integer K)) (C_is_letter : Cal P w K mg base "is_letter" 1 ["thing", "letters"] (sp_is_letter K)) : FnOk P w K mg base CX0 4 f fd ["self", "manner", "many", "links", "kinds"] (sp_Store_init K C) := by
  refine F.ok sc_Store_init (fun vs H Q E h => by obtain ⟨x, ld, kd, dx, n, H0, rfl, hn, hx, nx, e0, hld, hkd, k⟩ := h; rfl) (fun cdv A outer s H vs Q E hr h => ?_)
  obtain ⟨x, ld, kd, dx, n, H0, rfl, hn, hx, nx, e0, hld, hkd, k⟩ := h
  have nd := sc_Store_init.nd
  have hu := hu_of hr
  refine ⟨_, PSs.nox (pss_cons (ps_if (pt_not (pt_val (pe_cal C_is_manner (hr.mono (by decide)) (by rfl) (pa_cons (pv 1) pa_nil))))
        pss_never
        pss_nil) -- if not is_manner(manner):
      (pss_cons (ps_if (PW.pt (pw_or (pt_not (pt_val (pe_cal C_is_integer (hr.mono (by decide)) (by rfl) (pa_cons (pv 2) pa_nil)))) (pw_or1 (pt_cmpR op_lt (pv 2) pe_int (nomark _)))))
        pss_never
        pss_nil) -- if not is_integer(many) or many < 1:
      (pss_cons (ps_if (pt_not (pt_val (pe_callB call_isi (by rfl) T.n_isinstance (by decide +kernel) (pa_cons (pv 3) (pa_cons (pe_tyn "dict" (by rfl) T.n_dict (by decide +kernel)) pa_nil)))))
        pss_never
        pss_nil) -- if not isinstance(links, dict):
      (pss_cons (ps_fld (pv 0) (pv 1) rfl) -- self.manner = manner
      (pss_cons (ps_fld (pv 0) (pv 2) rfl) -- self.many = many
      (pss_cons (ps_fld (pv 0) pe_dnewK rfl) -- self.link_lists = {}
      (pss_cons (ps_fld (pv 0) pe_dnewK rfl) -- self.kind_lists = {}
      (pss_cons (ps_lock (ps_for PassesOwn.never rfl (pi_keys (pv 3)) (pg_name (i := 5) nd rfl (Or.inl rfl))
        (pss_cons (ps_if (pt_not (pt_val (pe_cal C_is_letter (hr.mono (by decide)) (by rfl) (pa_cons (pv 5) (pa_cons T.c_SMALL pa_nil)))))
          pss_never
          pss_nil) -- if not is_letter(letter, SMALL):
        (pss_one (ps_dput hu (pe_fld (pv 0) rfl) (pv 5) (pe_cal C_checked_pairs (hr.mono (by decide)) (by rfl) (pa_cons (pv 1) (pa_cons (pv 2) (pa_cons (pe_dget hu (pv 3) (pv 5) (fun _ _ => rfl)) (pa_cons (pv 5) pa_nil))))) rfl))))) -- for letter in links:
      (pss_cons (ps_if (PW.pt (pw_and (pt_cmpR op_notN (pv 4) pe_non (nomark _)) (pw_and1 (pt_not (pt_val (pe_callB call_isi (by rfl) T.n_isinstance (by decide +kernel) (pa_cons (pv 4) (pa_cons (pe_tyn "dict" (by rfl) T.n_dict (by decide +kernel)) pa_nil))))))))
        pss_never
        pss_nil) -- if kinds is not None and (not isinstance(kinds, dict)):
      (pss_one (ps_lock (ps_for PassesOwn.never rfl (pi_keys (pe_ifExp (pt_cmpR op_isN (pv 4) pe_non (nomark _)) pe_dnewK (pv 4))) (pg_name (i := 6) nd rfl (Or.inl rfl))
        (pss_cons (ps_if (PW.pt (pw_or (pt_cmpR op_ne (pv 1) pe_str (nomark _)) (pw_or1 (pt_not (pt_val (pe_cal C_is_letter (hr.mono (by decide)) (by rfl) (pa_cons (pv 6) (pa_cons T.c_DIGITS pa_nil))))))))
          pss_never
          pss_nil) -- if manner != 'any' or not is_letter(digit, DIGITS):
        (pss_one (ps_dput hu (pe_fld (pv 0) rfl) (pv 6) (pe_cal C_checked_things (hr.mono (by decide)) (by rfl) (pa_cons (pv 2) (pa_cons (pe_dget hu (pv 4) (pv 6) (fun _ _ => rfl)) (pa_cons (pv 6) pa_nil)))) rfl))))))))))))))), ?_⟩
  obtain ⟨lk, hld, hll, lnd, hlk⟩ := hld
  obtain ⟨lk2, hkd, hkl, knd, hkk⟩ := hkd
  have xl : x ≠ ld := fun e => by rw [e, hld] at nx; cases nx
  have xk : x ≠ kd := fun e => by rw [e, hkd] at nx; cases nx
  refine ⟨_, rfl, rfl, fun H1 e1 => ⟨_, rfl, iteF ?_⟩⟩
  refine ⟨_, rfl, ((n : Nat) : Int), rfl, fun H2 e2 => ⟨_, rfl, iteF ⟨_, rfl, _, _, rfl, rfl, _, rfl, ?_⟩⟩⟩
  rw [decide_eq_false (show ¬ (((n : Nat) : Int) < 1) by omega)]
  have E2 := (e0.trans e1).trans e2
  have hx2 := e2 _ _ (e1 _ _ hx)
  refine iteF ⟨_, rfl, _, _, _, _, true, rfl, .ty _, .base (.dK (E2 _ _ hld)), kit_ty (by decide +kernel), _, rfl, iteF ?_⟩
  refine ⟨_, rfl, _, rfl, x, C, dx, _, rfl, hx2, B.cls, B.n_manner, by decide, ?_⟩
  have E3 := ex_upd (o := .ins C dx (putF "manner" (.str "any") [])) E2 nx
  have hx3 : upd H2 x (.ins C dx (putF "manner" (.str "any") [])) x = some (.ins C dx (putF "manner" (.str "any") [])) := upd_same
  generalize upd H2 x (.ins C dx (putF "manner" (.str "any") [])) = H3 at E3 hx3 ⊢
  refine ⟨_, rfl, _, rfl, x, C, dx, _, rfl, hx3, B.cls, B.n_many, (by show 1 < 1000; decide), ?_⟩
  have E4 := ex_upd (o := .ins C dx (putF "many" (.int (n : Nat)) (putF "manner" (.str "any") []))) E3 nx
  have hx4 : upd H3 x (.ins C dx (putF "many" (.int (n : Nat)) (putF "manner" (.str "any") []))) x = some (.ins C dx (putF "many" (.int (n : Nat)) (putF "manner" (.str "any") []))) := upd_same
  generalize upd H3 x (.ins C dx (putF "many" (.int (n : Nat)) (putF "manner" (.str "any") []))) = H4 at E4 hx4 ⊢
  refine fun fl nfl => ⟨_, rfl, x, C, dx, _, rfl, at_new hx4 nfl, B.cls, B.n_link, (by show 2 < 1000; decide), ?_⟩
  have fl0 : H0 fl = none := fresh E4 nfl
  have flx : fl ≠ x := fun e => by rw [e, hx4] at nfl; cases nfl
  have E5 := ex_upd (o := .ins C dx (putF "link_lists" (.ref fl) (putF "many" (.int (n : Nat)) (putF "manner" (.str "any") [])))) (ex_new (o := .dK []) E4 nfl) nx
  have hx5 : upd (upd H4 fl (.dK [])) x (.ins C dx (putF "link_lists" (.ref fl) (putF "many" (.int (n : Nat)) (putF "manner" (.str "any") [])))) x = some (.ins C dx (putF "link_lists" (.ref fl) (putF "many" (.int (n : Nat)) (putF "manner" (.str "any") [])))) := upd_same
  have hf5 := at_ne (o := .ins C dx (putF "link_lists" (.ref fl) (putF "many" (.int (n : Nat)) (putF "manner" (.str "any") [])))) (upd_same (H := H4) (a := fl) (o := .dK [])) flx
  generalize upd (upd H4 fl (.dK [])) x (.ins C dx (putF "link_lists" (.ref fl) (putF "many" (.int (n : Nat)) (putF "manner" (.str "any") [])))) = H5 at E5 hx5 hf5 ⊢
  refine fun fk nfk => ⟨_, rfl, x, C, dx, _, rfl, at_new hx5 nfk, B.cls, B.n_kind, (by show 3 < 1000; decide), ?_⟩
  have fk0 : H0 fk = none := fresh E5 nfk
  have fkx : fk ≠ x := fun e => by rw [e, hx5] at nfk; cases nfk
  have flk : fl ≠ fk := fun e => by rw [e, nfk] at hf5; cases hf5
  have E6 := ex_upd (o := .ins C dx (putF "kind_lists" (.ref fk) (putF "link_lists" (.ref fl) (putF "many" (.int (n : Nat)) (putF "manner" (.str "any") []))))) (ex_new (o := .dK []) E5 nfk) nx
  have hx6 : upd (upd H5 fk (.dK [])) x (.ins C dx (putF "kind_lists" (.ref fk) (putF "link_lists" (.ref fl) (putF "many" (.int (n : Nat)) (putF "manner" (.str "any") []))))) x = some (.ins C dx [("manner", .str "any"), ("many", .int (n : Nat)), ("link_lists", .ref fl), ("kind_lists", .ref fk)]) := upd_same
  have hk6 := at_ne (o := .ins C dx (putF "kind_lists" (.ref fk) (putF "link_lists" (.ref fl) (putF "many" (.int (n : Nat)) (putF "manner" (.str "any") []))))) (upd_same (H := H5) (a := fk) (o := .dK [])) fkx
  have hf6 := at_ne (o := .ins C dx (putF "kind_lists" (.ref fk) (putF "link_lists" (.ref fl) (putF "many" (.int (n : Nat)) (putF "manner" (.str "any") []))))) (at_new (o := .dK []) hf5 nfk) flx
  generalize upd (upd H5 fk (.dK [])) x (.ins C dx (putF "kind_lists" (.ref fk) (putF "link_lists" (.ref fl) (putF "many" (.int (n : Nat)) (putF "manner" (.str "any") []))))) = H6 at E6 hx6 hk6 hf6 ⊢
  clear hx hx2 hx3 hx4 hx5 hf5 E2 E3 E4 E5
  have fll : fl ≠ ld := fun e => by rw [e, hld] at fl0; cases fl0
  have flkd : fl ≠ kd := fun e => by rw [e, hkd] at fl0; cases fl0
  have fkl : fk ≠ ld := fun e => by rw [e, hld] at fk0; cases fk0
  have fkkd : fk ≠ kd := fun e => by rw [e, hkd] at fk0; cases fk0
  refine ⟨ld, _, E6 _ _ hld, trivial, fun od => ⟨_, rfl, ld, od, rfl, .inl ⟨lk, upd_same, ?_⟩⟩⟩
  have EL := lock_on (d := ld) (f := .frz od (.dK lk)) E6
  have flL : upd H0 ld (.frz od (.dK lk)) fl = none := by rw [upd_ne fll]; exact fl0
  have ldL : upd H0 ld (.frz od (.dK lk)) ld = some (.frz od (.dK lk)) := upd_same
  have tkL : ∀ t f, H0 t = some (.tup f) → upd H0 ld (.frz od (.dK lk)) t = some (.tup f) := tup_upd hld fun _ h => nomatch h
  have lsL : ∀ a ys, H0 a = some (.lst ys) → upd H0 ld (.frz od (.dK lk)) a = some (.lst ys) := fun a ys h => at_ne h fun e => by rw [e, hld] at h; cases h
  refine for_it walk_keys (fun i σ H' => Ex (upd H0 ld (.frz od (.dK lk))) H' ∧ (∃ x5 x6, σ = [some (.ref x), some (.str "any"), some (.int (n : Nat)), some (.ref ld), some (.ref kd), x5, x6]) ∧ H' x = some (.ins C dx [("manner", .str "any"), ("many", .int (n : Nat)), ("link_lists", .ref fl), ("kind_lists", .ref fk)]) ∧ H' fk = some (.dK []) ∧ ∃ kv : List (Key × V), H' fl = some (.dK kv) ∧ kv.length ≤ i)
    ⟨EL, ⟨_, _, rfl⟩, at_ne hx6 xl, at_ne hk6 fkl, [], at_ne hf6 fll, Nat.le_refl _⟩ (fun i σ H' _ pv => pv.1 _ _ ldL) ?_ ?_
  · rintro i v σ Ha H' hi ⟨E, ⟨x5, x6, rfl⟩, hx7, hk7, kv, hf7, hkl7⟩ ⟨rfl, k, v', hkv, rfl⟩
    obtain ⟨c, a, ys, ps, rfl, hc, rfl, ha, hT, pn, pl, pb⟩ := hlk i k v' hkv
    have hm : c ∈ smallT.cps.toList := of_decide_eq_true (in_small hc)
    refine ⟨_, rfl, c, smallT, rfl, hm, fun H1 e1 => ⟨_, rfl, iteF ?_⟩⟩
    have E1 := E.trans e1
    have hget : DGet H1 ld (.str ⟨#[c]⟩) (some (.ref a)) := .inl ⟨lk, .inr ⟨#[c]⟩, .inr ⟨od, E1 _ _ ldL⟩, rfl, (valV_nd lnd hkv).symm⟩
    refine ⟨_, rfl, _, rfl, _, rfl, _, rfl, ld, _, rfl, hget, _, rfl, a, n, _, ys, ps, rfl, E1 _ _ (lsL _ _ ha), (hT.mono tkL).ex E1, pn, pl, pb, fun H2 v2 e2 => ?_⟩
    refine ⟨_, rfl, x, C, dx, _, _, rfl, e2 _ _ (e1 _ _ hx7), B.cls, B.n_link, rfl, _, rfl, fl, _, rfl, .k (k := .inr ⟨#[c]⟩) (e2 _ _ (e1 _ _ hf7)) (small_len (by omega)), ?_⟩
    exact ⟨ex_upd (E1.trans e2) flL, ⟨_, _, rfl⟩, at_ne (e2 _ _ (e1 _ _ hx7)) flx.symm, at_ne (e2 _ _ (e1 _ _ hk7)) flk.symm, _, upd_same, Nat.le_trans (length_putK _ _ _) (Nat.succ_le_succ hkl7)⟩
  rintro σ H' ⟨E, ⟨x5, x6, rfl⟩, hx7, hk7, _⟩
  refine ⟨E _ _ ldL, ?_⟩
  have E8 := lock_off hld E
  have hx8 := at_ne (o := .dK lk) hx7 xl
  have hk8 := at_ne (o := .dK lk) hk7 fkl
  generalize upd H' ld (.dK lk) = H8 at E8 hx8 hk8 ⊢
  refine ⟨_, rfl, rfl, _, rfl, iteNN (fun e => nomatch e) ⟨_, rfl, _, _, _, _, true, rfl, .ty _, .base (.dK (E8 _ _ hkd)), kit_ty (by decide +kernel), _, rfl, iteF ?_⟩⟩
  refine ⟨kd, _, E8 _ _ hkd, trivial, fun od => ⟨_, rfl, rfl, _, rfl, iteN (fun e => nomatch e) ⟨_, rfl, kd, od, rfl, .inl ⟨lk2, upd_same, ?_⟩⟩⟩⟩
  have EK := lock_on (d := kd) (f := .frz od (.dK lk2)) E8
  have fkK : upd H0 kd (.frz od (.dK lk2)) fk = none := by rw [upd_ne fkkd]; exact fk0
  have kdK : upd H0 kd (.frz od (.dK lk2)) kd = some (.frz od (.dK lk2)) := upd_same
  have lsK : ∀ a ys, H0 a = some (.lst ys) → upd H0 kd (.frz od (.dK lk2)) a = some (.lst ys) := fun a ys h => at_ne h fun e => by rw [e, hkd] at h; cases h
  refine for_it walk_keys (fun i σ H' => Ex (upd H0 kd (.frz od (.dK lk2))) H' ∧ (∃ x5 x6, σ = [some (.ref x), some (.str "any"), some (.int (n : Nat)), some (.ref ld), some (.ref kd), x5, x6]) ∧ H' x = some (.ins C dx [("manner", .str "any"), ("many", .int (n : Nat)), ("link_lists", .ref fl), ("kind_lists", .ref fk)]) ∧ ∃ kv : List (Key × V), H' fk = some (.dK kv) ∧ kv.length ≤ i)
    ⟨EK, ⟨_, _, rfl⟩, at_ne hx8 xk, [], at_ne hk8 fkkd, Nat.le_refl _⟩ (fun i σ H' _ pv => pv.1 _ _ kdK) ?_ ?_
  · rintro i v σ Ha H' hi ⟨E, ⟨x5, x6, rfl⟩, hx7, kv, hf7, hkl7⟩ ⟨rfl, k, v', hkv, rfl⟩
    obtain ⟨c, a, ns, rfl, hc, rfl, ha, pn, pl, pb⟩ := hkk i k v' hkv
    have hm : c ∈ digT.cps.toList := of_decide_eq_true (by rw [in_dig]; exact decide_eq_true hc)
    refine ⟨_, rfl, rfl, _, rfl, iteNS ⟨_, rfl, c, digT, rfl, hm, fun H1 e1 => ⟨_, rfl, iteF ?_⟩⟩⟩
    have E1 := E.trans e1
    have hget : DGet H1 kd (.str ⟨#[c]⟩) (some (.ref a)) := .inl ⟨lk2, .inr ⟨#[c]⟩, .inr ⟨od, E1 _ _ kdK⟩, rfl, (valV_nd knd hkv).symm⟩
    refine ⟨_, rfl, _, rfl, _, rfl, kd, _, rfl, hget, _, rfl, a, n, _, ns, rfl, E1 _ _ (lsK _ _ ha), pn, pl, pb, fun H2 v2 e2 => ?_⟩
    refine ⟨_, rfl, x, C, dx, _, _, rfl, e2 _ _ (e1 _ _ hx7), B.cls, B.n_kind, rfl, _, rfl, fk, _, rfl, .k (k := .inr ⟨#[c]⟩) (e2 _ _ (e1 _ _ hf7)) (small_len (by omega)), ?_⟩
    exact ⟨ex_upd (E1.trans e2) fkK, ⟨_, _, rfl⟩, at_ne (e2 _ _ (e1 _ _ hx7)) fkx.symm, _, upd_same, Nat.le_trans (length_putK _ _ _) (Nat.succ_le_succ hkl7)⟩
  rintro σ H' ⟨E, ⟨x5, x6, rfl⟩, hx7, _⟩
  exact ⟨E _ _ kdK, k _ (lock_off hkd E)⟩
end
end K21
end

/-! K21W23 -/
section
set_option Elab.async false
set_option linter.all false
set_option maxRecDepth 100000
set_option maxHeartbeats 4000000
/-! links with things exchanged -/
namespace K21
open PySem PySem.Spec PyProof.Rows L2
open Evl (Ex ex_l ex_t)
/-- things exchanged: s is what the dict at sd does -/
def SwAt (H : Hp) (sd : Addr) (n : Nat) (s : Nat → Nat) : Prop := ∃ sk : List (Key × V), H sd = some (.dK sk) ∧ (∀ v : Nat, v < n → (valV sk (.inl (v : Int)) = none ∧ s v = v) ∨ valV sk (.inl (v : Int)) = some (.int (s v : Nat))) ∧ (∀ v, v < n → s v < n) ∧ ∀ u v, u < n → v < n → s u = s v → u = v
/-- an entry of links -/
def LkV (H : Hp) (n : Nat) (k : Key) (v : V) : Prop := ∃ (c : Nat) (a : Addr) (ys : List V) (ps : List (Nat × Nat)), k = .inr ⟨#[c]⟩ ∧ (97 ≤ c ∧ c ≤ 122) ∧ v = .ref a ∧ H a = some (.lst ys) ∧ Tups H ys (ps.map prI) ∧ ps.Nodup ∧ ps.length ≤ 10000 ∧ ∀ q ∈ ps, q.1 < n ∧ q.2 < n
theorem LkV.mono {H H' : Hp} {n : Nat} {k : Key} {v : V} (h : LkV H n k v) (f : ∀ a ys, H a = some (.lst ys) → H' a = some (.lst ys)) (g : ∀ t zs, H t = some (.tup zs) → H' t = some (.tup zs)) : LkV H' n k v := by
  obtain ⟨c, a, ys, ps, h1, h2, h3, h4, h5, h6⟩ := h
  exact ⟨c, a, ys, ps, h1, h2, h3, f _ _ h4, h5.mono g, h6⟩
theorem lst_upd {H : Hp} {p : Addr} {o u : HO} (h : H p = some u) (n : ∀ f, u ≠ .lst f) : ∀ t f, H t = some (.lst f) → upd H p o t = some (.lst f) := fun t f e => at_ne e fun c => by
  rw [c, h] at e
  exact n f (Option.some.inj e)
theorem filter_all {α : Type} (l : List α) : l.filter (fun _ => true) = l := List.filter_eq_self.mpr fun _ _ => rfl
def sp_exchanged (K : PySem.W.Frag) : Sp := fun vs H Q _ => ∃ (ld sd : Addr) (n : Nat) (s : Nat → Nat), vs = [.ref ld, .ref sd] ∧ ld ≠ sd ∧ LkAt H ld n ∧ SwAt H sd n s ∧ ∀ (H' : Hp) (d : Addr), H d = none → Ex H H' → LkAt H' d n → Q (.ref d) H'
section
variable {P : Program} {w : World} {K : PySem.W.Frag} {mg : Str → Option Value} {base : Heap} {C CL : Addr}
-- exchanged: 0:links, 1:swaps, 2:found, 3:letter, 4:x, 5:y  cells: swaps
theorem sc_exchanged : FnScope ["links", "swaps", "found", "letter", "x", "y"] ["links", "swaps"] (defScope s_exchanged) := ⟨rfl, rfl, rfl, by decide +kernel, rfl, by decide +kernel, by decide +kernel⟩
theorem ok_exchanged {f : Addr} {fd : FuncData} (F : FnP K "exchanged" "exchanged" s_exchanged f fd) (m : mg "exchanged" = some (.ref f)) (T : Fx K mg)   : Cal P w K mg base "exchanged" 1 ["links", "swaps"] (sp_exchanged K) := by
  refine ⟨f, fd, ?_, m, F.kp, F.bindsN fun _ _ _ _ _ _ us hl => match us, hl with | [_, _], _ => rfl⟩
  refine F.ok sc_exchanged (fun vs H Q E h => by obtain ⟨ld, sd, n, sw, rfl, lsd, hld, hsd, k⟩ := h; rfl) (fun cdv A outer s H vs Q E hr h => ?_)
  obtain ⟨ld, sd, n, sw, rfl, lsd, hld, hsd, k⟩ := h
  have nd := sc_exchanged.nd
  have hu := hu_of hr
  refine ⟨_, PSs.nox (pss_cons (ps_set (i := 2) nd rfl (Or.inl rfl) pe_dnewK) -- found = {}
      (pss_cons (ps_lock (ps_for PassesOwn.never rfl (pi_keys (pv 0)) (pg_name (i := 3) nd rfl (Or.inl rfl))
        (pss_one (ps_dput hu (pv 2) (pv 3) (pe_lc (own := [("x", 4), ("y", 5)]) (g := (gTup K 2 (gCons (gName 4) (gCons (gName 5) gNil)))) (by rfl) nd (pi_list (pe_dget hu (pv 0) (pv 3) (fun _ _ => rfl))) (blkOk_by (N := ["links", "swaps", "found", "letter", "x", "y"]) (sc := defScope s_exchanged) (own := [("x", 4), ("y", 5)]) (by decide +kernel)) (fun _ _ _ _ _ => (pg_tup rfl (pgs_cons (pg_name (i := 4) nd rfl (Or.inl rfl) (.inr rfl)) (pgs_cons (pg_name (i := 5) nd rfl (Or.inl rfl) (.inr rfl)) pgs_nil)))) (fun _ _ _ _ _ => pts_nil) (fun _ _ _ _ _ => (pe_tup (pa_cons (pe_dget2 hu (pv 1) (pv 4) (pv 4) ⟨rfl, rfl, rfl, rfl⟩) (pa_cons (pe_dget2 hu (pv 1) (pv 5) (pv 5) ⟨rfl, rfl, rfl, rfl⟩) pa_nil))))) rfl)))) -- for letter in links:
      (pss_one (ps_ret (pv 2))))), ?_⟩
  obtain ⟨lk, hld, hll, lnd, hlk⟩ := hld
  obtain ⟨sk, hsd, hsw, hsb, hsi⟩ := hsd
  refine fun fd nfd => ?_
  have fl : fd ≠ ld := fun e => by rw [e, hld] at nfd; cases nfd
  refine ⟨ld, _, at_new hld nfd, trivial, fun od => ⟨_, rfl, ld, od, rfl, .inl ⟨lk, upd_same, ?_⟩⟩⟩
  have EL := lock_on (d := ld) (f := .frz od (.dK lk)) (Ex.new (o := .dK []) nfd)
  have fdL : upd H ld (.frz od (.dK lk)) fd = none := by rw [upd_ne fl]; exact nfd
  have ldL : upd H ld (.frz od (.dK lk)) ld = some (.frz od (.dK lk)) := upd_same
  have tkL := tup_upd (o := .frz od (.dK lk)) hld fun _ h => nomatch h
  have lsL := lst_upd (o := .frz od (.dK lk)) hld fun _ h => nomatch h
  have sdL : upd H ld (.frz od (.dK lk)) sd = some (.dK sk) := at_ne hsd lsd.symm
  refine for_it walk_keys (fun i σ H' => Ex (upd H ld (.frz od (.dK lk))) H' ∧ (∃ x3, σ = [some (.ref ld), some (.ref sd), some (.ref fd), x3, none, none]) ∧ ∃ kv : List (Key × V), H' fd = some (.dK kv) ∧ kv.map (·.1) = (lk.take i).map (·.1) ∧ ∀ (j : Nat) (k : Key) (v : V), kv[j]? = some (k, v) → LkV H' n k v)
    ⟨EL, ⟨_, rfl⟩, [], at_ne upd_same fl, rfl, fun _ _ _ h => nomatch h⟩ (fun i σ H' _ pv => pv.1 _ _ ldL) ?_ ?_
  · rintro i v σ Ha H' hi ⟨E, ⟨x3, rfl⟩, kv, hfd, hkk, hkv⟩ ⟨rfl, kk, v', hkey, rfl⟩
    obtain ⟨c, a, ys, ps, rfl, hc, rfl, ha, hT, pn, pl, pb⟩ := hlk i kk v' hkey
    have hget : DGet H' ld (.str ⟨#[c]⟩) (some (.ref a)) := .inl ⟨lk, .inr ⟨#[c]⟩, .inr ⟨od, E _ _ ldL⟩, rfl, (valV_nd lnd hkey).symm⟩
    have ha' := E _ _ (lsL _ _ ha)
    have hT' := (hT.mono tkL).ex E
    have hyl := hT.1
    rw [List.length_map] at hyl
    have hsd' := E _ _ sdL
    refine ⟨_, rfl, _, rfl, ld, _, rfl, hget, a, rfl, ⟨_, .of ha'⟩, fun D nD => lc_tups (walk_list (xs := ys)) (fun _ => true) (fun j => prI (sw (ps.getD j (0, 0)).1, sw (ps.getD j (0, 0)).2)) (by omega) nD (fun H2 e => .of (e _ _ ha')) (fun j x H1 H2 Fin Fn hj e ⟨eh, hx⟩ fy _ => ?_) fun H4 zs e4 hz4 hZ => ?_⟩
    · subst eh
      have hjp : j < ps.length := by omega
      obtain ⟨t, rfl, ht⟩ := hT'.2 j x (prI ps[j]) hx (by rw [List.getElem?_map, List.getElem?_eq_getElem hjp]; rfl)
      have hq := pb _ (List.getElem_mem hjp)
      rw [getD_of (List.getElem?_eq_getElem hjp)] at fy
      generalize ps[j] = q at ht hq fy
      have v1 : ∀ u : Nat, u < n → (valV sk (.inl (u : Int))).getD (.int (u : Nat)) = .int (sw u : Nat) := fun u hu => by
        rcases hsw u hu with ⟨a, b⟩ | a
        · rw [a, b]
          rfl
        · rw [a]
          rfl
      have hs2 := e _ _ hsd'
      have w1 : ∃ o, DGet H2 sd (.int (q.1 : Nat)) o ∧ o.getD (.int (q.1 : Nat)) = .int (sw q.1 : Nat) := ⟨_, .k (k := .inl (q.1 : Int)) hs2, v1 _ hq.1⟩
      have w2 : ∃ o, DGet H2 sd (.int (q.2 : Nat)) o ∧ o.getD (.int (q.2 : Nat)) = .int (sw q.2 : Nat) := ⟨_, .k (k := .inl (q.2 : Int)) hs2, v1 _ hq.2⟩
      obtain ⟨o1, g1, g1'⟩ := w1
      obtain ⟨o2, g2, g2'⟩ := w2
      refine ⟨t, _, rfl, .of (e _ _ ht), rfl, _, _, rfl, _, _, rfl, rfl, rfl, tyes ⟨_, rfl, sd, rfl, .inl ⟨sk, .inl hs2⟩, _, rfl, _, rfl, o1, g1, _, rfl, sd, rfl, .inl ⟨sk, .inl hs2⟩, _, rfl, _, rfl, o2, g2, szk, fun t2 nt2 => ?_⟩⟩
      rw [g1', g2']
      exact fy rfl t2 _ (Ex.new nt2) upd_same
    · rw [filter_all] at hZ
      have eZ : (List.range ys.length).map (fun j => prI (sw (ps.getD j (0, 0)).1, sw (ps.getD j (0, 0)).2)) = (ps.map fun q => (sw q.1, sw q.2)).map prI := by
        conv => rhs; rw [← range_get (0, 0) ps, List.map_map, List.map_map]
        rw [hyl]
        rfl
      rw [eZ] at hZ
      have hf4 := e4 _ _ hfd
      have hi' : i < lk.length := hi
      have hkl : kv.length = i := by
        have := congrArg List.length hkk
        rw [List.length_map, List.length_map, List.length_take] at this
        omega
      have hnk : (Sum.inr ⟨#[c]⟩ : Key) ∉ kv.map (·.1) := by
        rw [hkk, List.map_take]
        have h2 : i < (lk.map (·.1)).length := by rw [List.length_map]; exact hi'
        have h3 := nd_at lnd h2
        rw [show (lk.map (·.1))[i] = (Sum.inr ⟨#[c]⟩ : Key) by rw [List.getElem_map, (List.getElem?_eq_some_iff.mp hkey).2]] at h3
        exact h3
      have tk := tup_upd (o := .dK (putK kv (.inr ⟨#[c]⟩) (.ref D))) hf4 fun _ h => nomatch h
      have ls := lst_upd (o := .dK (putK kv (.inr ⟨#[c]⟩) (.ref D))) hf4 fun _ h => nomatch h
      refine ⟨_, rfl, _, rfl, fd, _, rfl, .k (k := .inr ⟨#[c]⟩) hf4 (small_len (by omega)), ?_⟩
      refine ⟨ex_upd (E.trans e4) fdL, ⟨_, rfl⟩, _, upd_same, ?_, fun j k v hj => ?_⟩
      · rw [keys_new hnk, List.map_append, hkk, List.take_add_one, hkey, List.map_append]
        rfl
      · rw [keys_new hnk] at hj
        by_cases hjl : j < kv.length
        · rw [List.getElem?_append_left hjl] at hj
          exact (hkv j k v hj).mono (fun a ys h => ls _ _ (e4 _ _ h)) fun t zs h => tk _ _ (e4 _ _ h)
        · rw [List.getElem?_append_right (by omega)] at hj
          have hj0 : j - kv.length = 0 := by
            rcases Nat.eq_zero_or_pos (j - kv.length) with h | h
            · exact h
            · rw [List.getElem?_eq_none (by simp; omega)] at hj
              cases hj
          rw [hj0] at hj
          cases hj
          refine ⟨c, D, zs, ps.map fun q => (sw q.1, sw q.2), rfl, hc, rfl, ls _ _ hz4, hZ.mono tk, ?_, by rw [List.length_map]; exact pl, fun q hq => ?_⟩
          · unfold List.Nodup at pn ⊢
            rw [List.pairwise_map]
            refine List.Pairwise.imp_of_mem (fun {x y} hx hy ne e => ne ?_) pn
            injection e with e1 e2
            exact Prod.ext (hsi _ _ (pb x hx).1 (pb y hy).1 e1) (hsi _ _ (pb x hx).2 (pb y hy).2 e2)
          · obtain ⟨r, hr, rfl⟩ := List.mem_map.mp hq
            exact ⟨hsb _ (pb r hr).1, hsb _ (pb r hr).2⟩
  · rintro σ H' ⟨E, ⟨x3, rfl⟩, kv, hfd, hkk, hkv⟩
    have hl' := E _ _ ldL
    refine ⟨hl', _, rfl, k _ fd nfd (lock_off hld E) ⟨kv, at_ne hfd fl, ?_, ?_, fun i k v hi => ?_⟩⟩
    · have := congrArg List.length hkk
      rw [List.length_map, List.length_map, List.length_take] at this
      omega
    · rw [hkk, List.take_length]
      exact lnd
    · exact (hkv i k v hi).mono (lst_upd hl' fun _ h => nomatch h) (tup_upd hl' fun _ h => nomatch h)
end
end K21
end

/-! K21W24 -/
section
set_option Elab.async false
set_option linter.all false
set_option maxRecDepth 100000
set_option maxHeartbeats 4000000
/-! the verdict -/
namespace K21
open PySem PySem.Spec PyProof.Rows L2
open Evl (Ex ex_l ex_t)
def sp_line_stores (K : PySem.W.Frag) : Sp := fun vs H Q _ => ∃ (kl : Addr) (p : Pt) (ks : List Pt), vs = [.ref kl, .str p.txt] ∧ p.Ok ∧ H kl = some (.lst (vtx ks)) ∧ (∀ q ∈ ks, q.Ok) ∧ ks.length ≤ 16 ∧
  ∀ (H' : Hp) (t a b : Addr), Ex H H' → H t = none → H' t = some (.tup [.str "open", .ref a, .ref b]) → Q (.ref t) H'
def sp_verdict (K : PySem.W.Frag) (C : Addr) : Sp := fun vs H Q _ => ∃ (b : Addr) (p : Pt) (ks : List Pt), vs = [.ref b, .str p.txt] ∧ Bk C H b ks ∧ Bok ks ∧ p.Ok ∧
  (∀ a, costOf p ks = some a → ∀ (H' : Hp) (t l : Addr), Ex H H' → H' t = some (.tup [.str "told", .ref l]) → PlanAt H' l p ks a → Q (.ref t) H') ∧
  (costOf p ks = none → ∀ (H' : Hp) (t x y : Addr), Ex H H' → H' t = some (.tup [.str "open", .ref x, .ref y]) → Q (.ref t) H')
theorem PlanAt.ex {H H' : Hp} {l : Addr} {p : Pt} {ks : List Pt} {a : Bf.Cost} (h : PlanAt H l p ks a) (e : Ex H H') : PlanAt H' l p ks a := by
  obtain ⟨ys, pl, h1, h2, h3⟩ := h
  exact ⟨ys, pl, e _ _ h1, h2.ex e, h3⟩
section
variable {P : Program} {w : World} {K : PySem.W.Frag} {mg : Str → Option Value} {base : Heap} {C CL : Addr}
-- verdict: 0:book, 1:path
theorem sc_verdict : FnScope ["book", "path"] ["book", "path"] (defScope s_verdict) := ⟨rfl, rfl, rfl, by decide +kernel, rfl, by decide +kernel, by decide +kernel⟩
theorem ok_verdict {f : Addr} {fd : FuncData} (F : FnP K "verdict" "verdict" s_verdict f fd) (m : mg "verdict" = some (.ref f)) (T : Fx K mg) (B : ClB K C) (C_checked_path : Cal P w K mg base "checked_path" 4 ["book", "path"] (sp_checked_path K C)) (C_tells_path : Cal P w K mg base "tells_path" 9 ["manner", "kept", "path"] (sp_tells_path K)) (C_line_stores : Cal P w K mg base "line_stores" 8 ["kept", "path"] (sp_line_stores K)) (C_plan_of : Cal P w K mg base "plan_of" 8 ["manner", "kept", "path"] (sp_plan_of K)) : Cal P w K mg base "verdict" 10 ["book", "path"] (sp_verdict K C) := by
  refine ⟨f, fd, ?_, m, F.kp, F.bindsN fun _ _ _ _ _ _ us hl => match us, hl with | [_, _], _ => rfl⟩
  refine F.ok sc_verdict (fun vs H Q E h => by obtain ⟨b, p, ks, rfl, hb, hk, hp, k1, k2⟩ := h; rfl) (fun cdv A outer s H vs Q E hr h => ?_)
  obtain ⟨b, p, ks, rfl, hb, hk, hp, k1, k2⟩ := h
  have nd := sc_verdict.nd
  have hu := hu_of hr
  refine ⟨_, PSs.nox (pss_cons (ps_expr (pe_cal C_checked_path (hr.mono (by decide)) (by rfl) (pa_cons (pv 0) (pa_cons (pv 1) pa_nil)))) -- checked_path(book, path)
      (pss_cons (ps_if (pt_val (pe_cal C_tells_path (hr.mono (by decide)) (by rfl) (pa_cons (pe_fld (pv 0) rfl) (pa_cons (pe_fld (pv 0) rfl) (pa_cons (pv 1) pa_nil)))))
        (pss_one (ps_ret (pe_tup (pa_cons pe_str (pa_cons (pe_cal C_plan_of (hr.mono (by decide)) (by rfl) (pa_cons (pe_fld (pv 0) rfl) (pa_cons (pe_fld (pv 0) rfl) (pa_cons (pv 1) pa_nil)))) pa_nil)))))
        pss_nil) -- if tells_path(book.manner, book.paths, path):
      (pss_cons (ps_if (pt_cmpR op_eq (pe_fld (pv 0) rfl) pe_str (nomark _))
        (pss_one (ps_ret (pe_cal C_line_stores (hr.mono (by decide)) (by rfl) (pa_cons (pe_fld (pv 0) rfl) (pa_cons (pv 1) pa_nil)))))
        pss_nil) -- if book.manner == 'any':
      (pss_cons (ps_if (pt_cmpR op_eq (pe_fld (pv 0) rfl) pe_str (nomark _))
        (pss_one (ps_ret pe_never))
        pss_nil) -- if book.manner == 'matched':
      (pss_one (ps_ret pe_never)))))), ?_⟩
  refine ⟨_, rfl, _, rfl, b, ks, p, rfl, hb, hp, fun H1 e1 => ?_⟩
  obtain ⟨dx, l, h1, h2⟩ := hb.ex e1
  have l16 : ks.length ≤ 16 := Nat.le_trans hk.le (by decide)
  refine ⟨_, rfl, b, C, dx, _, _, rfl, h1, B.cls, B.n_manner, rfl, _, rfl, b, C, dx, _, _, rfl, h1, B.cls, B.n_paths, rfl, _, rfl, l, p, ks, rfl, h2, hk.ok, l16, hp, fun H2 e2 => ⟨_, rfl, ?_⟩⟩
  have h1' := e2 _ _ h1
  have h2' := e2 _ _ h2
  cases hc : costOf p ks with
  | some a =>
    refine iteT ⟨_, rfl, b, C, dx, _, _, rfl, h1', B.cls, B.n_manner, rfl, _, rfl, b, C, dx, _, _, rfl, h1', B.cls, B.n_paths, rfl, _, rfl, l, p, ks, rfl, h2', hk.ok, l16, hp, (fun h => by rw [hc] at h; cases h), fun a' m H3 hc' nm e3 hP => ⟨szk, fun t nt => ?_⟩⟩
    have hP' : PlanAt H3 m p ks a := by
      rw [hc] at hc'
      cases hc'
      exact hP
    exact k1 a hc _ t m (((e1.trans e2).trans e3).trans (Ex.new nt)) upd_same (hP'.ex (Ex.new nt))
  | none =>
    refine iteF ⟨_, rfl, b, C, dx, _, _, rfl, h1', B.cls, B.n_manner, rfl, rfl, _, rfl, iteS ?_⟩
    refine ⟨_, rfl, b, C, dx, _, _, rfl, h1', B.cls, B.n_paths, rfl, _, rfl, l, p, ks, rfl, hp, h2', hk.ok, l16, fun H3 t x y e3 nt ht => k2 hc H3 t x y ((e1.trans e2).trans e3) ht⟩
end
end K21
end

/-! K21Repl -/
section
set_option Elab.async false
set_option linter.all false
set_option maxRecDepth 100000
set_option maxHeartbeats 4000000
/-! [(d, m.replace(d, "")) for d in m], one token out -/
namespace K21
open PySem PySem.Spec PyProof.Rows L2
open Evl (Ex)
theorem thnT {α : Type} {t : Sem α} {Q Q' : α → Shared → Prop} {M : Model} {A : Around} {E : Value → Shared → Prop} {s : Shared} (h : wpAny M A t Q (fun _ _ => False) s) (k : ∀ a s', s.toks ≤ s'.toks → Q a s' → Q' a s') : wpAny M A t Q' E s :=
  wpAny_mono (PySem.wpAny_toks h) (fun a s' q => k a s' q.1 q.2) fun _ _ q => q.2.elim
section
variable {X : Cx} {pins : List (Addr × Obj)} {σ : St} {H : Hp} {s : Shared}
/-- a local is stored: the value itself stands there -/
theorem store_raw {M : Model} {A : Around} {E : Value → Shared → Prop} {i : Nat} {x : Str} {v : V} {u : Value} {Q : Unit → Shared → Prop} (I : Inv X pins σ H s) (hN : X.N.Nodup) (hi : X.N[i]? = some x) (hk : X.env.scope.names.lookup x = some .local) (r : RelV v u)
    (h : ∀ (s' : Shared) (m : Str → Option Value), Inv X pins (σ.set i (some v)) H s' → s'.heap.Ns X.env.locals m → m x = some u → s'.toks = s.toks + 1 → Q () s') : wpAny M A (storeName X.env x u) Q E s := by
  obtain ⟨m, hn, hl⟩ := id I.loc
  have plainScope : (X.env.scope.kind == .class || (X.env.scope.kind == .module && X.env.locals != X.env.globals)) = false := by
    rw [I.ok.kind]
    rfl
  have room : i < σ.length := by
    rw [I.len]
    exact (List.getElem?_eq_some_iff.mp hi).1
  have other := I.cne
  refine wpAny_storeName_local hk hn (fun h' hn' hs => ?_) plainScope
  obtain ⟨oL, _, _, hoL, _⟩ := id hn
  have below : ∀ {b : Addr} {o : Obj}, X.s_0.heap.get? b = some o → h'.get? b = s.heap.get? b := fun {b o} e => hs.2 b (Nat.ne_of_lt (Nat.lt_of_lt_of_le (Heap.lt_size e) I.ok.above))
  have stay : HOk X.prog X.w H h' := fun b ob e => by
    refine (I.hok b ob e).stay (fun c w' hc q => (hs.2 c fun ec => ?_).trans q) (fun _ q => q) fun _ _ q => q
    subst ec
    have free := I.free
    rcases hc with rfl | hc
    · rw [free] at e
      cases e
    · rw [free] at hc
      cases hc
  refine h _ _ ⟨I.ok, I.os, I.bare, ?_, ⟨_, hn', fun j y v' e1 e2 e3 => ?_⟩, fun y c e => ?_, I.free, I.freeC, fun p hp => ?_, stay, by simpa using I.len⟩ hn' (if_pos rfl) rfl
  · refine ⟨fun b o e n hb hx => (below e).trans (I.base.keep b o e n hb hx), fun b o e n hb hx => ?_, I.base.free, fun b o e hx => ?_, I.base.tups, I.base.frzs, I.base.tbls⟩
    · obtain ⟨sl, e1⟩ := I.base.slot b o e n hb hx
      exact ⟨sl, (below e).trans e1⟩
    · obtain ⟨o', e1⟩ := I.base.there b o e hx
      exact ⟨o', (below e).trans e1⟩
  · by_cases hj : j = i
    · subst hj
      rw [hi] at e1
      cases e1
      rw [List.getElem?_set_self room] at e2
      cases e2
      exact ⟨u, r, .inl ⟨hk, if_pos rfl⟩⟩
    · rw [List.getElem?_set_ne (Ne.symm hj)] at e2
      obtain ⟨u', r', look⟩ := hl j y v' e1 e2 e3
      refine ⟨u', r', ?_⟩
      rcases look with ⟨k, e⟩ | ⟨k, c, e, z⟩
      · exact .inl ⟨k, (if_neg fun eyx => hj (nodup_ix hN e1 (by rw [eyx]; exact hi))).trans e⟩
      · exact .inr ⟨k, c, e, z.sameBut hs (other y c e)⟩
  · obtain ⟨w', z⟩ := I.cell y c e
    exact ⟨w', z.sameBut hs (other y c e)⟩
  · obtain ⟨e, n, ne, nf, d⟩ := I.pin p hp
    exact ⟨(hs.2 p.1 ne).trans e, n, ne, nf, d⟩
/-- a local is read: the value itself -/
theorem read_raw {x : Str} {u : Value} {m : Str → Option Value} {pos : Pos} {Q E : Value → Shared → Prop} (I : Inv X pins σ H s) (hk : X.env.scope.names.lookup x = some .local) (hn : s.heap.Ns X.env.locals m) (hm : m x = some u) (q : Q u s)
    (hd : (x == ("__debug__" : Str)) = false := by decide) : wpAny (model X.prog X.w) X.A (eval (.Name x pos) X.env) Q E s :=
  wpAny_Name (wpAny_loadName_local I.ok.kind hk hn hm q) hd
/-- (d, k.replace(d, "")) -/
theorem elt_raw {im : Nat} {d k : Str} {x : Str} {c : Nat} {t : Tok} {m : Str → Option Value} {j x1 : Nat} {p1 p2 p3 p4 apos cpos pos : Pos} {Q : VK} (I : Inv X pins σ H s) (hkd : X.env.scope.names.lookup d = some .local) (hn : s.heap.Ns X.env.locals m) (hm : m d = some (.str ⟨#[c]⟩ t))
    (t0 : t ≠ 0) (ts : t < s.toks) (hNk : X.N[im]? = some k) (hvk : Vis X.env.scope k) (hσ : σ[im]? = some (some (.str x))) (hx : x.length ≤ 1000) (q : ∀ p, H p = none → Q (.ref p) (upd H p (.tup [.str ⟨#[c]⟩, .str (Txt.replace x ⟨#[c]⟩ "")])))
    (hd : (d == ("__debug__" : Str)) = false) (hdk : (k == ("__debug__" : Str)) = false) (hck : (k == ("__classdict__" : Str)) = false)
    (hs1 : starEach [.Name d p1, .Call (.Attribute (.Name k p2) "replace" apos) [.Name d p3, .Constant (.str "") j p4] [] cpos] X.env = [(false, eval (.Name d p1) X.env), (false, eval (.Call (.Attribute (.Name k p2) "replace" apos) [.Name d p3, .Constant (.str "") j p4] [] cpos) X.env)])
    (hs2 : starEach [.Name d p3, .Constant (.str "") j p4] X.env = [(false, eval (.Name d p3) X.env), (false, eval (.Constant (.str "") j p4) X.env)])
    (hbase : attributeBase (.Name k p2) "replace" X.env (eval (.Name k p2) X.env) = eval (.Name k p2) X.env) (hline : (apos.endLine == cpos.line) = true) :
    wpAny (model X.prog X.w) X.A (eval (.Tuple [.Name d p1, .Call (.Attribute (.Name k p2) "replace" apos) [.Name d p3, .Constant (.str "") j p4] [] cpos] x1 pos) X.env) (EP X pins σ Q) X.xe s := by
  refine wpAny_Tuple_spliced ?_
  rw [hs1]
  refine Calls.spliced_cons (read_raw I hkd hn hm ?_ hd)
  refine Calls.spliced_cons ?_
  refine PySem.Call_method2 hbase hs2 hline (raw_name hNk hvk I hσ (fun v r => ?_) hdk hck)
  obtain ⟨tx, rfl⟩ := r
  refine ⟨"str", _, F.plainAttrs_str, F.slot_str_replace, F.type_str_replace, typeIs_str _ _ _, (fun _ e => nomatch e), Calls.callWith_builtin rfl (Calls.evalArgs_plain (Calls.spliced_cons (read_raw I hkd hn hm ?_ hd)))⟩
  refine Calls.spliced_cons (Calls.Constant_str (Calls.spliced_nil ?_))
  have l0 : ("" : Str).length = 0 := by decide +kernel
  refine PySem.SC.replace t0 (Nat.ne_of_gt (Nat.lt_of_le_of_lt (Nat.zero_le t) ts)) (Nat.ne_of_lt ts) ?_ (by rw [l0]; omega) fun t' kk => ?_
  · cases hb : ((⟨#[c]⟩ : Str) == "") with
    | false => rfl
    | true =>
      have e := congrArg Str.length (eq_of_beq hb)
      rw [l0] at e
      cases e
  refine Calls.spliced_nil ?_
  have I2 : Inv X pins σ H { s with toks := kk } := I.tok kk
  refine ⟨szk, .ref s.heap.objs.size, upd H s.heap.objs.size (.tup [.str ⟨#[c]⟩, .str (Txt.replace x ⟨#[c]⟩ "")]), I2.laid (t' := kk) (fun b u e => Heap.get?_push_of_some _ e) (Nat.le_refl _) ?_, rfl, q _ (I.hok.fresh (Nat.le_refl _))⟩
  exact ⟨szk, [.str ⟨#[c]⟩ t, .str (Txt.replace x ⟨#[c]⟩ "") t'], .cons ⟨_, rfl⟩ (.cons ⟨_, rfl⟩ .nil), ⟨_, Heap.get?_push_size _ rfl, rfl, _, rfl⟩⟩
/-- what the comprehension gives: a new list of pairs -/
def tRL (im : Nat) : TE := fun σ H Q => ∃ x : Str, σ[im]? = some (some (.str x)) ∧ x.cps.all (· < 128) = true ∧ x.length ≤ 1000 ∧
  ∀ D ys H', Ex H H' → H D = none → H' D = some (.lst ys) → Tups H' ys (x.cps.toList.map fun c => [V.str ⟨#[c]⟩, V.str (Txt.replace x ⟨#[c]⟩ "")]) → Q (.ref D) H'
theorem pet_rep {im id : Nat} {d k : Str} {scope : Scope} {j x1 : Nat} {p1 p2 p3 p4 p5 p6 apos cpos pos1 pos : Pos} (hc : X.calm = true) (hN : X.N.Nodup) (ok : BlkOk X.N X.env.scope scope [(d, id)])
    (hNd : X.N[id]? = some d) (hNk : X.N[im]? = some k) (hne : im ≠ id) (hvX : Vis X.env.scope k) (hkd : (relabel scope X.env).names.lookup d = some .local) (hvk : Vis (relabel scope X.env) k)
    (hd : (d == ("__debug__" : Str)) = false) (hdk : (k == ("__debug__" : Str)) = false) (hck : (k == ("__classdict__" : Str)) = false)
    (hs1 : ∀ env, starEach [.Name d p1, .Call (.Attribute (.Name k p2) "replace" apos) [.Name d p3, .Constant (.str "") j p4] [] cpos] env = [(false, eval (.Name d p1) env), (false, eval (.Call (.Attribute (.Name k p2) "replace" apos) [.Name d p3, .Constant (.str "") j p4] [] cpos) env)])
    (hs2 : ∀ env, starEach [.Name d p3, .Constant (.str "") j p4] env = [(false, eval (.Name d p3) env), (false, eval (.Constant (.str "") j p4) env)])
    (hbase : ∀ env, attributeBase (.Name k p2) "replace" env (eval (.Name k p2) env) = eval (.Name k p2) env) (hline : (apos.endLine == cpos.line) = true) (hs : ∀ x, foldedSetIterable (.Name k p6) X.env x = pure x) :
    PET X (.ListComp (.Tuple [.Name d p1, .Call (.Attribute (.Name k p2) "replace" apos) [.Name d p3, .Constant (.str "") j p4] [] cpos] x1 pos1) [⟨.Name d p5, .Name k p6, [], 0⟩] scope pos) (tRL im) := by
  intro pins s σ H Q h0 I h
  obtain ⟨x, hσx, hasc, hxl, fin⟩ := h
  rw [eval_ListComp]
  have caught : ∀ y ∈ scope.names, y.2 = .free → ∃ c, X.env.cells.lookup y.1 = some c := fun y hy e => (ok.free y hy e).elim (fun z => I.ok.has _ (.inl z)) fun z => I.ok.has _ (.inr z)
  refine wpAny_comprehension_free rfl hs (closure_ok caught) ok.kind (fun y hy e => by rw [ok.uniq y hy, e]) (raw_name hNk hvX I hσx (fun v r => ?_) hdk hck)
  obtain ⟨tx, rfl⟩ := r
  refine wpAny_pyIter_ascii hasc ?_
  have h0' : 1 ≤ s.toks := h0
  have T : Turn X.prog X.w X.K (.Name d p5) (Its x) [s.heap.objs.size] s.heap.objs.size (fun i h => h.IsStrIter s.heap.objs.size "str_ascii_iterator" x tx i) := turn_str _ x tx _ (.inl rfl)
  have f2 : ∀ b ∈ [s.heap.objs.size], FpOk X pins H b := fun b hb => by
    rw [List.mem_singleton.mp hb]
    exact I.fpOk (Nat.le_refl _) (I.hok.fresh (Nat.le_refl _))
  have I2 : Inv X pins σ H ({ s with heap := s.heap.push { cls := .type "str_ascii_iterator", data := .fields #[.str x tx, .int 0 0] } } : Shared) := I.kept (t' := s.toks) fun b o e => Heap.get?_push_of_some _ e
  generalize es2 : ({ s with heap := s.heap.push { cls := .type "str_ascii_iterator", data := .fields #[.str x tx, .int 0 0] } } : Shared) = s2 at I2 ⊢
  have t2 : 1 ≤ s2.toks := by rw [← es2]; exact h0'
  have st2 : s2.heap.IsStrIter s.heap.objs.size "str_ascii_iterator" x tx 0 := by rw [← es2]; exact ⟨_, Heap.get?_push_size _ rfl, rfl, rfl⟩
  clear es2
  generalize s.heap.objs.size = it at T f2 st2 ⊢
  refine wpAny_newObj_type (newEnv_comp ?_) (by show 0 ≤ sizeLine; decide)
  generalize eD : s2.heap.objs.size = D
  have freeD : H D = none := I2.hok.fresh (Nat.le_of_eq eD)
  generalize es3 : ({ s2 with heap := s2.heap.push { cls := .type "list", data := .seq ([] : List Value).toArray } } : Shared) = s3
  have I3 : Inv X pins σ (upd H D (.lst [])) s3 := by
    rw [← es3]
    refine I2.laid (t' := s2.toks) (fun b o e => Heap.get?_push_of_some _ e) (Nat.le_of_eq eD) ⟨Nat.zero_le _, [], 0, .nil, ?_⟩
    rw [← eD]
    exact Heap.get?_push_size _ rfl
  have e3 : s3.heap = s2.heap.push { cls := .type "list", data := .seq ([] : List Value).toArray } := by rw [← es3]
  have t3 : 1 ≤ s3.toks := by rw [← es3]; exact t2
  have below : ∀ b ∈ [it], b < s2.heap.objs.size := fun b hb => by
    obtain ⟨o, e, _⟩ := T.obj _ _ st2 b hb
    exact Heap.lt_size e
  have f3 : ∀ b ∈ [it], FpOk X pins (upd H D (.lst [])) b ∧ b < s3.heap.objs.size := fun b hb => by
    have lt := below b hb
    refine ⟨⟨?_, (f2 b hb).2⟩, by rw [e3, Heap.size_push]; exact Nat.lt_succ_of_lt lt⟩
    rw [upd_ne (by rw [← eD]; exact Nat.ne_of_lt lt)]
    exact (f2 b hb).1
  have st3 : s3.heap.IsStrIter it "str_ascii_iterator" x tx 0 := T.keep _ _ _ st2 fun b _ o e => by
    rw [e3]
    exact Heap.get?_push_of_some _ e
  have I4 := block_start I3 ok hN f3
  have hD3 : upd H D (.lst []) D = some (.lst []) := upd_same
  have eH : Ex H (upd H D (.lst [])) := Ex.new freeD
  generalize upd H D (.lst []) = H3 at I3 I4 f3 hD3 eH
  generalize cellsFrom (s3.heap.objs.size + 1) scope.names (cloFrom X.env.cells scope.names []) = cl at I4 ⊢
  show codeAny _ _ (.compStart (.ListComp _ [⟨.Name d p5, .Name k p6, [], 0⟩] scope pos) 0 (.ref it) (.ref D) (compEnvC scope cl s3.heap.objs.size X.env)) (compPost (model X.prog X.w) X.A X.xe none _ (.ref D) s3.heap.objs.size) { s3 with heap := pushCells (s3.heap.push { cls := .type "dict", data := .dict #[] }) scope.names }
  have nofp : ∀ b ∈ [it], H3 b = none := fun b hb => (f3 b hb).1.1
  have eS : (compEnvC scope cl s3.heap.objs.size X.env).scope = relabel scope X.env := rfl
  generalize ece : compEnvC scope cl s3.heap.objs.size X.env = ce at I4 eS ⊢
  have eL : ce.locals = s3.heap.objs.size := by
    subst ece
    rfl
  generalize es4 : ({ s3 with heap := pushCells (s3.heap.push { cls := .type "dict", data := .dict #[] }) scope.names } : Shared) = s4 at I4 ⊢
  have t4 : 1 ≤ s4.toks := by rw [← es4]; exact t3
  have st4 : s4.heap.IsStrIter it "str_ascii_iterator" x tx 0 := T.keep _ _ _ st3 fun b _ o e => by
    rw [← es4]
    exact pushCells_keeps _ _ _ _ (Heap.get?_push_of_some _ e)
  have fpb : ∀ {σ' : St} {H' : Hp} {s' : Shared}, Inv (X.blk s3 H3 scope ce [it]) [] σ' H' s' → (∀ b ∈ [it], H' b = none) → ∀ b ∈ [it], FpOk (X.blk s3 H3 scope ce [it]) [] H' b := fun {σ' H' s'} I' n b hb =>
    ⟨n b hb, (I'.ok.exf b hb).1, I'.ok.exfs b hb, .inl hb, fun x c e => (I'.ok.exf b hb).2 x c e, fun p hp => absurd (show p ∈ ([] : List (Addr × Obj)) ++ [] from hp) (by simp)⟩
  have loop : codeAny (model X.prog X.w) X.A (.compLoop (.ListComp (.Tuple [.Name d p1, .Call (.Attribute (.Name k p2) "replace" apos) [.Name d p3, .Constant (.str "") j p4] [] cpos] x1 pos1) [⟨.Name d p5, .Name k p6, [], 0⟩] scope pos) 0 (.ref it) (.ref D) ce) (compPost (model X.prog X.w) X.A X.xe none (EP X pins σ Q) (.ref D) s3.heap.objs.size) s4 := by
    refine compLoop_any (fun n s' => ∃ i H', n = x.cps.size - i ∧ i ≤ x.cps.size ∧ Inv (X.blk s3 H3 scope ce [it]) [] (wipe σ [id]) H' s' ∧ s'.heap.IsStrIter it "str_ascii_iterator" x tx i ∧ (∀ b ∈ [it], H' b = none) ∧ 1 ≤ s'.toks ∧ Ex H H' ∧ ∃ ys, H' D = some (.lst ys) ∧ ys.length = i ∧ Tups H' ys ((x.cps.toList.take i).map fun c => [V.str ⟨#[c]⟩, V.str (Txt.replace x ⟨#[c]⟩ "")])) ?_ x.cps.size
      ⟨0, H3, rfl, Nat.zero_le _, I4, st4, nofp, t4, eH, [], hD3, rfl, Tups.nil⟩
    rintro n s5 ⟨i, H5, rfl, hi, I5, st5, n5, t5, e5, ys, hD5, hl5, hT5⟩
    rcases Nat.lt_or_ge i x.cps.size with lt | ge
    · have hxc : x.cps[i]? = some x.cps[i] := Array.getElem?_eq_getElem lt
      generalize x.cps[i] = c at hxc
      obtain ⟨f0, f1, f2', f3', f4', f5'⟩ := fpb I5 n5 it List.mem_cons_self
      refine wpAny_pyNext_ascii_item st5 hxc fun h' hit' hs' => ?_
      have I6 : Inv (X.blk s3 H3 scope ce [it]) [] (wipe σ [id]) H5 { s5 with heap := h', toks := s5.toks + 1 } := I5.turned (t' := s5.toks + 1) (fun b o hb e => (hs'.2 b hb).trans e) f0 f1 f3' f4' f5'
      have hit2 := hit'
      obtain ⟨oi, eo, co, dO⟩ := hit2
      refine go_of (s := { s5 with heap := h', toks := s5.toks + 1 }) eo co dO (by decide) ?_
      have I6p := I6.pinned (fpb I6 n5) (T.obj _ _ hit')
      refine wpAny_assign_Name (store_raw (i := id) (v := V.str ⟨#[c]⟩) I6p hN hNd (by rw [← eS] at hkd; exact hkd) ⟨_, rfl⟩ fun s8 m I8 hn8 hm8 t8 => ?_)
      have t8' : 1 ≤ s8.toks := by rw [t8]; exact Nat.le_add_left 1 _
      refine wpAny_tests_nil ?_
      have hNi : id < σ.length := by rw [I.len]; exact (List.getElem?_eq_some_iff.mp hNd).1
      refine iteT (thnT (elt_raw (X := X.blk s3 H3 scope ce [it]) (Q := fun y H' => ∃ p, y = .ref p ∧ H5 p = none ∧ H' = upd H5 p (.tup [.str ⟨#[c]⟩, .str (Txt.replace x ⟨#[c]⟩ "")])) I8 (by rw [← eS] at hkd; exact hkd) hn8 hm8
        (Nat.ne_of_gt t5) (by rw [t8]; exact Nat.lt_succ_of_lt (Nat.lt_succ_self _)) hNk (by rw [← eS] at hvk; exact hvk) ?_ hxl (fun p np => ⟨p, rfl, np, rfl⟩) hd hdk hck (hs1 _) (hs2 _) (hbase _) hline) fun z s10 k10 q => ?_)
      · show ((σ.set id none).set id _)[im]? = _
        rw [List.getElem?_set_ne (Ne.symm hne), List.getElem?_set_ne (Ne.symm hne)]
        exact hσx
      obtain ⟨yv, H10, I10, r10, p, rfl, np, rfl⟩ := q
      have hD10 := at_new (o := .tup [.str ⟨#[c]⟩, .str (Txt.replace x ⟨#[c]⟩ "")]) hD5 np
      have hxs : x.cps.size ≤ 1000 := hxl
      refine thnT (app_ok (X := X.blk s3 H3 scope ce [it]) (E := fun _ _ => False) (Q := fun _ s11 => Inv (X.blk s3 H3 scope ce [it]) _ _ (upd (upd H5 p (.tup [.str ⟨#[c]⟩, .str (Txt.replace x ⟨#[c]⟩ "")])) D (.lst (ys ++ [.ref p]))) s11) I10 hD10 (small_len (by omega)) r10 fun s' I' => I') fun _ s11 k11 I11 => ?_
      have held : ∀ b ∈ [it], ∀ o, h'.get? b = some o → s11.heap.get? b = some o ∧ upd (upd H5 p (.tup [.str ⟨#[c]⟩, .str (Txt.replace x ⟨#[c]⟩ "")])) D (.lst (ys ++ [.ref p])) b = none := fun b hb o e =>
        ⟨(I11.pin (b, o) (List.mem_append_right _ (List.mem_append_right _ (mem_pinsAt hb e)))).1, (I11.pin (b, o) (List.mem_append_right _ (List.mem_append_right _ (mem_pinsAt hb e)))).2.1⟩
      refine ⟨x.cps.size - (i + 1), by omega, i + 1, _, rfl, lt, (I11.unpinned (pins := [])).weak (by simp [wipe]) (fun j v e => ?_), T.keep _ _ _ hit' fun b hb o e => (held b hb o e).1, fun b hb => ?_, Nat.le_trans t8' (Nat.le_trans k10 k11), ?_, _, upd_same, by rw [List.length_append, hl5]; rfl, ?_⟩
      · have e : (σ.set id none)[j]? = some (some v) := e
        show ((σ.set id none).set id _)[j]? = _
        by_cases hj : j = id
        · rw [hj, List.getElem?_set_self hNi] at e
          cases e
        · rw [List.getElem?_set_ne (Ne.symm hj)]
          exact e
      · obtain ⟨o, e, _⟩ := T.obj _ _ hit' b hb
        exact (held b hb o e).2
      · exact ex_upd (ex_new e5 np) freeD
      · rw [List.take_add_one, show x.cps.toList[i]? = some c by rw [Array.getElem?_toList]; exact hxc, List.map_append]
        exact ((hT5.ex (Ex.new np)).app (Tups.one upd_same)).mono (tup_upd hD10 fun _ h => nomatch h)
    · refine thnF (T.done (X.blk s3 H3 scope ce [it]) rfl rfl rfl hc i [] s5 _ H5 (fun _ _ => False) I5 (fpb I5 n5) st5 ge) fun r s6 ⟨hr, I6⟩ => ?_
      subst hr
      have ei : i = x.cps.size := Nat.le_antisymm hi ge
      have I7 : Inv X pins σ H5 s6 := I3.call' (ch := [it]) I6.os I6.base I6.hok I6.bare fun b hb => ⟨(f3 b hb).1.2.2.2.1, (f3 b hb).1.2.1, (f3 b hb).1.2.2.2.2.1, (f3 b hb).1.2.2.2.2.2⟩
      have freeL : H5 s3.heap.objs.size = none := by
        have y : H5 ce.locals = none := I6.free
        rwa [eL] at y
      obtain ⟨m, hn, _⟩ := I6.loc
      have hn : s6.heap.Ns ce.locals m := hn
      rw [eL] at hn
      refine ⟨m, hn, fun h'' sb => ?_⟩
      obtain ⟨g0, g1, g2, g3, g4, g5⟩ := I3.fpOk (Nat.le_refl _) freeL
      refine ⟨.ref D, H5, I7.turned (t' := s6.toks) (fun b o hb e => (sb.2 b hb).trans e) g0 g1 g3 g4 g5, rfl, fin D ys H5 e5 freeD hD5 ?_⟩
      rw [ei, ← Array.length_toList, List.take_length] at hT5
      exact hT5
  exact codeAny_compStart_list loop (T.self X.A 0 _ _ _ st4 loop)
theorem thnK {α : Type} {t : Sem α} {Q Q' : α → Shared → Prop} {M : Model} {A : Around} {E : Value → Shared → Prop} {s : Shared} (h : wpAny M A t Q E s) (k : ∀ a s', s.toks ≤ s'.toks → Q a s' → Q' a s') : wpAny M A t Q' E s :=
  wpAny_mono (PySem.wpAny_toks h) (fun a s' q => k a s' q.1 q.2) fun _ _ q => q.2
theorem pat_one {e : Expr} {te : TE} (h : PET X e te) (hs : starEach [e] X.env = [(false, eval e X.env)] := by rfl) : PAT X [e] (tCons te tNil) := pat_cons h pat_nil hs
/-- o.name(..), the arguments want a token -/
theorem pet_bm {name : Str} {T id : String} {r : V → List V → Hp → VK → Prop} {o e : Expr} {es : List Expr} {to : TE} {t : TA} {apos cpos : Pos} (pa : PlainAttrs T) (slot : Slot T name id) (hty : typeOf (.builtin id) = pure (.type "method_descriptor")) (hm : MtR X id r) (ho : PE X o to) (ha : PAT X (e :: es) t)
    (hb : attributeBase o name X.env (eval o X.env) = eval o X.env := by rfl)
    (hf : ((backTo cpos (starEach (e :: es) X.env)).all (fun x => !x.1) && (backToKw cpos (keywordEach [] X.env)).all (fun x => x.1.isSome) && decide ((e :: es).length + ([] : List Keyword).length + (if ([] : List Keyword).isEmpty then 0 else 1) < 30)) = true := by rfl)
    (hl : (apos.endLine == cpos.line) = true := by rfl) (hst : starEach (e :: es) X.env = (false, eval e X.env) :: starEach es X.env := by rfl) (hp : (backTo cpos (starEach es X.env)).any (·.1) = false := by rfl) :
    PET X (.Call (.Attribute o name apos) (e :: es) [] cpos) (tBM X.K T r to t) := by
  intro pins s σ H Q h0 I h
  refine wpAny_Call_method_late hb hf hl rfl (thnK (ho.run pins s σ H _ I h) fun v s1 k1 ⟨x, H1, I1, r1, ty, q1⟩ => ?_)
  obtain ⟨g1, g2⟩ := tyV_is I1 r1 ty
  refine ⟨T, id, pa, slot, hty, g1, g2, ?_⟩
  have args := ha cpos pins s1 σ H1 _ (Nat.le_trans h0 k1) I1 q1
  rw [hst] at args ⊢
  refine Calls.callWith_builtin (by show (false || (backTo cpos (starEach es X.env)).any (·.1)) = false; rw [hp]; rfl) (Calls.evalArgs_plain ?_)
  exact thn args fun us s2 ⟨vs, H2, I2, r2, q2⟩ => hm pins s2 σ H2 x vs v us Q I2 r1 r2 q2
theorem pst_expr {e : Expr} {te : TE} {pos : Pos} (he : PET X e te) (hs : swapsWith e none pos.line X.env = pure false := by rfl) : PST X (.Expr e pos) (tDrop te) := by
  intro pins s σ H D h0 I h
  exact wpAny_Expr_any (thn (he pins s σ H _ h0 I h) fun v s1 ⟨x, H1, I1, r1, q1⟩ => ⟨σ, H1, I1, q1⟩) I.quiet hs
/-- if i < b < c: .., the written number is the token -/
theorem ps_ifTok {i : Int} {j : Nat} {op op' : CmpOp} {r r' : R2} {b c : Expr} {tb tc : TE} {st : Stmt} {t : TS} {p0 pos pos' : Pos} (ho : OpR X (compareOp op) r) (ho' : OpR X (compareOp op') r') (hb : PE X b tb) (hc : PE X c tc) (ha : PST X st t)
    (hm : lastMarks [op, op'] [b, c] = false := by with_unfolding_all rfl) : PS X (.If (.Compare (.Constant (.int i) j p0) [op, op'] [b, c] pos) [st] [] pos') (tIfS (tTest (tChain r r' (tC (.int i)) tb tc)) t tNext) := by
  refine ⟨fun pins s σ H D I h => ?_⟩
  have h : tb σ H fun y H2 => r (.int i) y H2 fun z H3 => ∃ k, z = .bl k ∧ (if k = true then tc σ H3 fun w' H4 => r' y w' H4 (fun x H' => ∃ k, x = .bl k ∧ (if k = true then t D σ H' else tNext D σ H')) else ∃ k, (.bl false : V) = .bl k ∧ (if k = true then t D σ H3 else tNext D σ H3)) := h
  refine wpAny_If (isTrue_chain (wpAny_Constant_int (test_link (thnK (hb.run pins { s with toks := s.toks + 1 } σ H _ (I.tok _) h) fun u s2 k2 ⟨y, H2, I2, r2, q2⟩ => thnK (ho pins s2 σ H2 (.int i) y (.int i s.toks) u _ I2 ⟨_, rfl⟩ r2 q2) fun d s3 k3 ⟨z, H3, I3, r3, k, e, q3⟩ => ?_))) hm)
  have t3 : 1 ≤ s3.toks := Nat.le_trans (Nat.le_add_left 1 s.toks) (Nat.le_trans k2 k3)
  subst e
  cases r3
  refine wpAny_truthy_bool ?_
  have go : ∀ {s' : Shared} {H' : Hp} {k : Bool}, 1 ≤ s'.toks → Inv X pins σ H' s' → (if k = true then t D σ H' else tNext D σ H') → wpAny (model X.prog X.w) X.A (execs (if k = true then [st] else []) X.env) (SP X pins D) X.xe s' := fun {s' H' k} tt I' q => by
    cases k with
    | true => exact (CwR.psst_one ha) pins s' σ H' D tt I' q
    | false => exact (pss_nil (X := X)).run pins s' σ H' D I' q
  cases k with
  | false =>
    obtain ⟨k', e', q'⟩ := q3
    cases e'
    exact ite_ff (go (k := false) t3 I3 q')
  | true =>
    refine ite_tt (test_last (thnK (hc.run pins s3 σ H3 _ I3 q3) fun w' s4 k4 ⟨z', H4, I4, r4, q4⟩ => thnK (ho' pins s4 σ H4 y z' u w' _ I4 r2 r4 q4) fun d' s5 k5 ⟨z2, H5, I5, r5, kk, e2, q5⟩ => ?_))
    subst e2
    cases r5
    refine wpAny_truthy_bool ?_
    have fin := go (k := kk) (Nat.le_trans t3 (Nat.le_trans k4 k5)) I5 q5
    cases kk with
    | true => exact iteT fin
    | false => exact iteF fin
end
end K21
end

/-! K21SetDc -/
section
set_option Elab.async false
set_option linter.all false
set_option maxRecDepth 100000
set_option maxHeartbeats 4000000
/-! name = {k: v for ..} on one line -/
namespace K21
open PySem PySem.Spec PyProof.Rows L2
section
variable {X : Cx}
theorem u65 {k : Nat} {A : Around} (r : Room k A) : A.units + 65 < cLine := by
  have := r.un
  omega
theorem sw_dc {kx vx : Expr} {gs : List Comprehension} {scope : Scope} {pos py : Pos} {y : Str} {l : Nat} {env : Env} (h1 : env.scope.kind = .function) (h2 : env.scope.names.lookup y = some .local) (h3 : (py.line == pos.line) = true)
    (h4 : (scope.names.any fun (n, k) => n == y && (k == .local || k == .cell)) = false) : swapsWith (.DictComp kx vx gs scope pos) (some (.Name y py)) l env = pure true := by
  have e1 : env.kindOf y = some .local := h2
  have e2 : env.blockKind = .function := by
    unfold Env.blockKind
    rw [h1]
    rfl
  unfold swapsWith
  simp only [e2, e1, h4, Expr.pos, h3]
  rfl
theorem ps_setDc {i : Nat} {y : Str} {py : Pos} {kx vx tg iter : Expr} {ifs : List Expr} {scope : Scope} {own : List (Str × Nat)} {pos spos : Pos} {wi : TI} {g : TG} {tt : TT} {tk tv : TE} (hc : X.calm = true) (hN : X.N.Nodup) (hy : X.N[i]? = some y)
    (hyl : X.env.scope.names.lookup y = some .local) (hsw : swapsWith (.DictComp kx vx [⟨tg, iter, ifs, 0⟩] scope pos) (some (.Name y py)) spos.line X.env = pure true) (hi : PI X tg iter wi) (ok : BlkOk X.N X.env.scope scope own)
    (hg : ∀ (s : Shared) (H : Hp) (C : Addr) (cl : List (Str × Addr)) (fp : List Addr), PG (X.blk s H scope (compEnvC scope cl C X.env) fp) tg g)
    (ht : ∀ (s : Shared) (H : Hp) (C : Addr) (cl : List (Str × Addr)) (fp : List Addr), PTs (X.blk s H scope (compEnvC scope cl C X.env) fp) ifs tt)
    (hk : ∀ (s : Shared) (H : Hp) (C : Addr) (cl : List (Str × Addr)) (fp : List Addr), PE (X.blk s H scope (compEnvC scope cl C X.env) fp) kx tk)
    (he : ∀ (s : Shared) (H : Hp) (C : Addr) (cl : List (Str × Addr)) (fp : List Addr), PE (X.blk s H scope (compEnvC scope cl C X.env) fp) vx tv) (hs : ∀ x, foldedSetIterable iter X.env x = pure x := by intro _; rfl) :
    PS X (.Assign [.Name y py] (.DictComp kx vx [⟨tg, iter, ifs, 0⟩] scope pos) spos) (tAsg (tDc wi g tt tk tv (own.map (·.2))) (gName i)) := by
  refine ⟨fun pins s σ H D I h => ?_⟩
  rw [exec_Assign_Name_used _ _ _ _ hsw]
  refine wpAny_bind (wpAny_standAt (wpAny_bind ?_))
  have h : tDc wi g tt tk tv (own.map (·.2)) σ H (fun x H1 => gName i x σ H1 D.nx) := h
  show wpAny _ X.A (do let _ ← comprehension (.DictComp kx vx [⟨tg, iter, ifs, 0⟩] scope pos) scope X.env (firstIterPos [⟨tg, iter, ifs, 0⟩] pos) newDict false (eval iter X.env) (some (assign (.Name y py) X.env))) _ _ s
  refine wpAny_bind (thn (dc_core (Qf := fun _ s' => SP X pins D .next s') hc hN I hi ok hg ht hk he hs h fun L C s' m H' I' q hn f => ?_) fun _ s' hq => wpAny_pure (wpAny_pure hq))
  show wpAny _ _ (assign (.Name y py) X.env (.ref L)) _ _ _
  obtain ⟨f0, f1, f2, f3, f4, f5⟩ := f
  refine wpAny_assign_Name (store_ok2 (v := V.ref L) I' hN hy (.inl hyl) rfl (fun s2 I2 ⟨a, sb, ha⟩ => ?_) (.inr hyl))
  have away : C ≠ a := by
    rcases ha with e | e
    · rw [e]
      exact f1
    · exact fun q => f4 y a e q.symm
  exact ⟨m, hn.sameBut sb away, fun h3 sb3 => ⟨_, H', I2.turned (t' := s2.toks) (fun b o hb e => (sb3.2 b hb).trans e) f0 f1 f3 f4 f5, q⟩⟩
end
end K21
end

/-! K21LS -/
section
set_option Elab.async false
set_option linter.all false
set_option maxRecDepth 100000
set_option maxHeartbeats 4000000
/-! rooms and kinds while two stores are made -/
namespace K21
open PySem PySem.Spec PyProof.Rows L2
open Evl (Ex ex_l ex_t)
/-- a room: its items are numbered from s on -/
def RoomAt (H : Hp) (a : Addr) (s n : Nat) : Prop := ∃ ys : List V, H a = some (.lst ys) ∧ ys.length = n ∧ ∀ (k : Nat) (y : V), ys[k]? = some y → ∃ (t : Addr) (b : Bool), y = .ref t ∧ H t = some (.tup [.int ((s + k : Nat) : Int), .bl b])
theorem RoomAt.mono {H H' : Hp} {a : Addr} {s n : Nat} (h : RoomAt H a s n) (h1 : ∀ ys, H a = some (.lst ys) → H' a = some (.lst ys)) (h2 : Tk H H') : RoomAt H' a s n := by
  obtain ⟨ys, e1, e2, e3⟩ := h
  refine ⟨ys, h1 _ e1, e2, fun k y hk => ?_⟩
  obtain ⟨t, b, e4, e5⟩ := e3 k y hk
  exact ⟨t, b, e4, h2 t _ e5⟩
/-- a dict from signs to lists -/
def dcl (cs : List Nat) (as : List Addr) : List (Key × V) := List.zipWith (fun c a => ((Sum.inr ⟨#[c]⟩ : Key), V.ref a)) cs as
theorem dcl_keys (cs : List Nat) (as : List Addr) (h : cs.length = as.length) : (dcl cs as).map (·.1) = cs.map fun c => (Sum.inr ⟨#[c]⟩ : Key) := by
  unfold dcl
  induction cs generalizing as with
  | nil => rfl
  | cons c cs ih =>
    cases as with
    | nil => cases h
    | cons a as =>
      show _ :: _ = _ :: _
      rw [ih as (by simpa using h)]
theorem dcl_get {cs : List Nat} {as : List Addr} {i c : Nat} {a : Addr} (h1 : cs[i]? = some c) (h2 : as[i]? = some a) : (dcl cs as)[i]? = some (.inr ⟨#[c]⟩, .ref a) := by
  unfold dcl
  rw [List.getElem?_zipWith, h1, h2]
theorem key_inj {a b : Nat} (h : (Sum.inr ⟨#[a]⟩ : Key) = Sum.inr ⟨#[b]⟩) : a = b := by
  injection h with h
  exact sg_inj a b h
theorem dcl_nd {cs : List Nat} {as : List Addr} (h : cs.length = as.length) (nd : cs.Nodup) : ((dcl cs as).map (·.1)).Nodup := by
  rw [dcl_keys cs as h]
  unfold List.Nodup at *
  rw [List.pairwise_map]
  exact nd.imp fun {x y} n e => n (key_inj e)
theorem dcl_val {cs : List Nat} {as : List Addr} {i c : Nat} {a : Addr} (h : cs.length = as.length) (nd : cs.Nodup) (h1 : cs[i]? = some c) (h2 : as[i]? = some a) : valV (dcl cs as) (.inr ⟨#[c]⟩) = some (.ref a) := valV_nd (dcl_nd h nd) (dcl_get h1 h2)
theorem ix_inj {α : Type} : ∀ {l : List α} {i j : Nat} {x : α}, l.Nodup → l[i]? = some x → l[j]? = some x → i = j
  | [], _, _, _, _, h, _ => by cases h
  | a :: l, 0, 0, _, _, _, _ => rfl
  | a :: l, 0, j + 1, x, nd, h1, h2 => by
    cases h1
    exact absurd (List.mem_of_getElem? (show l[j]? = some a from h2)) (List.nodup_cons.mp nd).1
  | a :: l, i + 1, 0, x, nd, h1, h2 => by
    cases h2
    exact absurd (List.mem_of_getElem? (show l[i]? = some a from h1)) (List.nodup_cons.mp nd).1
  | a :: l, i + 1, j + 1, x, nd, h1, h2 => congrArg (· + 1) (ix_inj (List.nodup_cons.mp nd).2 (show l[i]? = some x from h1) (show l[j]? = some x from h2))
structure LS (H0 H : Hp) (rl kd : Addr) (as : List Addr) (rs : List (Addr × Nat × Nat)) (nss : Nat → List Nat) : Prop where
  e : Ex H0 H
  hr : H rl = some (.lst (rs.map fun r => V.ref r.1))
  hk : ∀ (i : Nat) (a : Addr), as[i]? = some a → H a = some (.lst (vnt (nss i)))
  hd : H kd = some (.dK (dcl digT.cps.toList as))
  rm : ∀ r ∈ rs, RoomAt H r.1 r.2.1 r.2.2
  z1 : H0 rl = none
  z2 : ∀ a ∈ as, H0 a = none ∧ a ≠ rl
  z3 : as.Nodup
  z4 : ∀ r ∈ rs, H0 r.1 = none ∧ r.1 ≠ rl ∧ r.1 ∉ as
  z5 : (rs.map (·.1)).Nodup
section
variable {H0 H : Hp} {rl kd : Addr} {as : List Addr} {rs : List (Addr × Nat × Nat)} {nss : Nat → List Nat}
theorem LS.up {H' : Hp} (h : LS H0 H rl kd as rs nss) (e : Ex H H') : LS H0 H' rl kd as rs nss :=
  ⟨h.e.trans e, e _ _ h.hr, fun i a ha => e _ _ (h.hk i a ha), e _ _ h.hd, fun r hr => (h.rm r hr).mono (fun ys q => e _ _ q) (.of e), h.z1, h.z2, h.z3, h.z4, h.z5⟩
theorem LS.room {q : Addr} (h : LS H0 H rl kd as rs nss) (nq : H q = none) (s : Nat) : LS H0 (upd (upd H q (.lst [])) rl (.lst ((rs.map fun r => V.ref r.1) ++ [.ref q]))) rl kd as (rs ++ [(q, s, 0)]) nss := by
  have e : Ex H (upd H q (.lst [])) := Ex.new nq
  have hr := e _ _ h.hr
  have qrl : q ≠ rl := fun e => by rw [e, h.hr] at nq; cases nq
  have tk : Tk (upd H q (.lst [])) (upd (upd H q (.lst [])) rl (.lst ((rs.map fun r => V.ref r.1) ++ [.ref q]))) := tup_upd hr fun _ h => nomatch h
  refine ⟨ex_upd (h.e.trans e) h.z1, by rw [upd_same, List.map_append]; rfl, fun i a ha => at_ne (e _ _ (h.hk i a ha)) (h.z2 a (List.mem_of_getElem? ha)).2, at_ne (e _ _ h.hd) (fun qe => by have z := e _ _ h.hd; rw [qe, hr] at z; cases z), fun r hm => ?_, h.z1, h.z2, h.z3, fun r hm => ?_, ?_⟩
  · rcases List.mem_append.mp hm with m | m
    · exact (h.rm r m).mono (fun ys q => at_ne (e _ _ q) (h.z4 r m).2.1) ((Tk.of e).trans tk)
    · rw [List.mem_singleton.mp m]
      exact ⟨[], at_ne upd_same qrl, rfl, fun _ _ q => nomatch q⟩
  · rcases List.mem_append.mp hm with m | m
    · exact h.z4 r m
    · rw [List.mem_singleton.mp m]
      refine ⟨fresh h.e nq, qrl, fun qa => ?_⟩
      obtain ⟨i, hi, ei⟩ := List.getElem_of_mem qa
      have := h.hk i q (by rw [List.getElem?_eq_getElem hi, ei])
      rw [nq] at this
      cases this
  · rw [List.map_append, List.nodup_append]
    refine ⟨h.z5, by simp, fun x hx y hy e => ?_⟩
    obtain ⟨r, hr, rfl⟩ := List.mem_map.mp hx
    obtain ⟨ys, e1, _⟩ := h.rm r hr
    rw [e, List.mem_singleton.mp hy] at e1
    have e1 : H q = _ := e1
    rw [nq] at e1
    cases e1
theorem LS.item {q t : Addr} {s n : Nat} {b : Bool} {ys : List V} (h : LS H0 H rl kd as (rs ++ [(q, s, n)]) nss) (hq : H q = some (.lst ys)) (ht : H t = some (.tup [.int ((s + n : Nat) : Int), .bl b])) : LS H0 (upd H q (.lst (ys ++ [.ref t]))) rl kd as (rs ++ [(q, s, n + 1)]) nss := by
  have hm : (q, s, n) ∈ rs ++ [(q, s, n)] := List.mem_append_right _ List.mem_cons_self
  obtain ⟨z1, z2, z3⟩ := h.z4 _ hm
  have tk : Tk H (upd H q (.lst (ys ++ [.ref t]))) := tup_upd hq fun _ h => nomatch h
  have nd := h.z5
  rw [List.map_append, List.nodup_append] at nd
  obtain ⟨ys', y1, y2, y3⟩ := h.rm _ hm
  have y1 : H q = some (.lst ys') := y1
  rw [hq] at y1
  cases y1
  have y2 : ys.length = n := y2
  refine ⟨ex_upd h.e z1, ?_, fun i a ha => at_ne (h.hk i a ha) (fun e => z3 (by rw [← e]; exact List.mem_of_getElem? ha)), at_ne h.hd (fun e => by have := h.hd; rw [e, hq] at this; cases this), fun r hr => ?_, h.z1, h.z2, h.z3, fun r hr => ?_, ?_⟩
  · have := at_ne (o := .lst (ys ++ [.ref t])) h.hr z2.symm
    rw [this, List.map_append, List.map_append]
    rfl
  · rcases List.mem_append.mp hr with m | m
    · exact (h.rm r (List.mem_append_left _ m)).mono (fun ys e => at_ne e fun e => nd.2.2 r.1 (List.mem_map.mpr ⟨r, m, rfl⟩) q (by simp) e) tk
    · rw [List.mem_singleton.mp m]
      refine ⟨ys ++ [.ref t], upd_same, by rw [List.length_append, y2]; rfl, fun k y hk => ?_⟩
      by_cases c : k < ys.length
      · rw [List.getElem?_append_left c] at hk
        obtain ⟨t', b', e1, e2⟩ := y3 k y hk
        exact ⟨t', b', e1, tk _ _ e2⟩
      · rw [List.getElem?_append_right (by omega)] at hk
        have k0 : k - ys.length = 0 := by
          rcases Nat.eq_zero_or_pos (k - ys.length) with h | h
          · exact h
          · rw [List.getElem?_eq_none (by simp; omega)] at hk
            cases hk
        rw [k0] at hk
        cases hk
        refine ⟨t, b, rfl, tk _ _ ?_⟩
        rw [show k = n by omega]
        exact ht
  · rcases List.mem_append.mp hr with m | m
    · exact h.z4 r (List.mem_append_left _ m)
    · rw [List.mem_singleton.mp m]
      exact ⟨z1, z2, z3⟩
  · rw [List.map_append]
    have := h.z5
    rw [List.map_append] at this
    exact this
theorem LS.kind {i m : Nat} {a : Addr} (h : LS H0 H rl kd as rs nss) (ha : as[i]? = some a) : LS H0 (upd H a (.lst (vnt (nss i) ++ [.int (m : Nat)]))) rl kd as rs (fun j => if j = i then nss i ++ [m] else nss j) := by
  have hla := h.hk i a ha
  obtain ⟨z1, z2⟩ := h.z2 a (List.mem_of_getElem? ha)
  have tk : Tk H (upd H a (.lst (vnt (nss i) ++ [.int (m : Nat)]))) := tup_upd hla fun _ h => nomatch h
  refine ⟨ex_upd h.e z1, at_ne h.hr z2.symm, fun j b hb => ?_, at_ne h.hd (fun e => by have := h.hd; rw [e, hla] at this; cases this), fun r hr => (h.rm r hr).mono (fun ys e => at_ne e fun q => (h.z4 r hr).2.2 (by rw [q]; exact List.mem_of_getElem? ha)) tk, h.z1, h.z2, h.z3, h.z4, h.z5⟩
  by_cases c : j = i
  · subst c
    rw [ha] at hb
    cases hb
    rw [upd_same]
    show _ = some (HO.lst (vnt (if j = j then nss j ++ [m] else nss j)))
    rw [if_pos rfl]
    unfold vnt
    rw [List.map_append]
    rfl
  · show _ = some (HO.lst (vnt (if j = i then nss i ++ [m] else nss j)))
    rw [if_neg c]
    refine at_ne (h.hk j b hb) fun e => c ?_
    subst e
    exact ix_inj h.z3 hb ha
end
/-- a sign struck out -/
theorem repl_sub {m : List Nat} (d : Nat) : ∃ m' : List Nat, Txt.replace (S m) ⟨#[d]⟩ "" = S m' ∧ m'.Sublist m := by
  refine ⟨m.filter (· != d), ?_, List.filter_sublist⟩
  have e := replace_strikes (S m) d
  rw [S_cps] at e
  rw [show ("" : Str) = ⟨#[]⟩ by decide +kernel]
  generalize Txt.replace (S m) ⟨#[d]⟩ ⟨#[]⟩ = z at e
  obtain ⟨a⟩ := z
  unfold S
  rw [← e]
/-- {c: [] for c in text} -/
theorem dc_empty {z : Str} {sl : Nat} {σ : St} {H1 : Hp} {D : Addr} {Qd : Hp → Prop} (hs : sl < σ.length) (hz : z.cps.toList.length ≤ 100) (nd : z.cps.toList.Nodup) (hD : H1 D = none)
    (done : ∀ (H' : Hp) (as : List Addr), Ex H1 H' → H' D = some (.dK (dcl z.cps.toList as)) → as.length = z.cps.toList.length → as.Nodup → (∀ a ∈ as, H' a = some (.lst []) ∧ H1 a = none) → Qd H') :
    ∃ W : Nat → Nat → Hp → Prop, (∃ m, W 0 m (upd H1 D (.dK []))) ∧ ∀ i m H, W i m H →
      ((Its z).stop i H ∧ Qd H) ∨ ((Its z).go i H ∧ ∃ Nx : Hp → Prop, (∀ H', Nx H' → ∃ m', m' < m ∧ W (i + 1) m' H') ∧ ∀ x H', (Its z).yld i H x H' → gName sl x (wipe σ [sl]) H' fun σ2 H2 => wipe σ2 [sl] = wipe σ [sl] ∧ tYes σ2 H2 fun b H3 =>
        if b = true then tVar sl σ2 H3 fun y H4 => tLst tNil σ2 H4 fun z H5 => ∃ kvs k, y = kV k ∧ H5 D = some (.dK kvs) ∧ kvs.length < sizeLine ∧ Nx (upd H5 D (.dK (putK kvs k z))) else Nx H3) := by
  refine dc_it walk_str (fun i H' => Ex H1 H' ∧ ∃ as : List Addr, H' D = some (.dK (dcl (z.cps.toList.take i) as)) ∧ as.length = (z.cps.toList.take i).length ∧ as.Nodup ∧ ∀ a ∈ as, H' a = some (.lst []) ∧ H1 a = none) ⟨Ex.new hD, [], upd_same, rfl, List.nodup_nil, fun _ h => (nomatch h)⟩ (fun _ _ _ _ => trivial) ?_ ?_
  · rintro i x H0 H' hi ⟨e, as, hD', hl, hn, ha⟩ ⟨rfl, c, hc, rfl⟩
    rw [← Array.getElem?_toList] at hc
    have hi' : i < z.cps.toList.length := hi
    have hil : (z.cps.toList.take i).length = i := by rw [List.length_take]; omega
    refine ⟨?_, tyes ⟨.str ⟨#[c]⟩, ?_, szk, fun a na => ?_⟩⟩
    · show ((σ.set sl none).set sl _).set sl none = σ.set sl none
      rw [List.set_set, List.set_set]
    · show ((σ.set sl none).set sl _)[sl]? = _
      rw [List.set_set, List.getElem?_set_self hs]
    have hD2 := at_new (o := .lst []) hD' na
    have hk : (Sum.inr ⟨#[c]⟩ : Key) ∉ (dcl (z.cps.toList.take i) as).map (·.1) := by
      rw [dcl_keys _ _ hl.symm]
      intro m
      obtain ⟨y, hy, e⟩ := List.mem_map.mp m
      have := key_inj e
      rw [this] at hy
      have q := nd_at nd hi'
      rw [show z.cps.toList[i] = c from (List.getElem?_eq_some_iff.mp hc).2] at q
      exact q hy
    have hlen : (dcl (z.cps.toList.take i) as).length = i := by
      unfold dcl
      rw [List.length_zipWith, hl, hil, Nat.min_self]
    have nD : a ≠ D := fun q => by rw [q, hD'] at na; cases na
    have ls := lst_upd (o := .dK (putK (dcl (z.cps.toList.take i) as) (.inr ⟨#[c]⟩) (.ref a))) hD2 fun _ h => nomatch h
    refine ⟨_, .inr ⟨#[c]⟩, rfl, hD2, by rw [hlen]; exact small_len (by omega), ex_upd (ex_new e na) hD, as ++ [a], ?_, ?_, ?_, fun b hb => ?_⟩
    · rw [upd_same, keys_new hk, List.take_add_one, hc]
      unfold dcl
      rw [List.zipWith_append hl.symm]
      rfl
    · rw [List.length_append, hl, List.take_add_one, hc, List.length_append]
      rfl
    · rw [List.nodup_append]
      refine ⟨hn, by simp, fun u hu v hv q => ?_⟩
      rw [List.mem_singleton.mp hv] at q
      have := (ha u hu).1
      rw [q, na] at this
      cases this
    · rcases List.mem_append.mp hb with h | h
      · exact ⟨ls _ _ (at_new (ha b h).1 na), (ha b h).2⟩
      · rw [List.mem_singleton.mp h]
        exact ⟨ls _ _ upd_same, fresh e na⟩
  · rintro H' ⟨e, as, hD', hl, hn, ha⟩
    have et : z.cps.toList.take z.cps.size = z.cps.toList := by
      rw [← Array.length_toList]
      exact List.take_length
    rw [et] at hD' hl
    exact done H' as e hD' hl hn ha
section
variable {H0 H : Hp} {rl kd : Addr} {as : List Addr} {rs : List (Addr × Nat × Nat)} {nss : Nat → List Nat}
/-- something new is none of these -/
theorem LS.new {q : Addr} (h : LS H0 H rl kd as rs nss) (nq : H q = none) : H0 q = none ∧ q ≠ rl ∧ q ∉ as ∧ q ≠ kd ∧ ∀ r ∈ rs, r.1 ≠ q := by
  refine ⟨fresh h.e nq, fun e => ?_, fun m => ?_, fun e => ?_, fun r hr e => ?_⟩
  · rw [e, h.hr] at nq
    cases nq
  · obtain ⟨i, hi, ei⟩ := List.getElem_of_mem m
    rw [h.hk i q (by rw [List.getElem?_eq_getElem hi, ei])] at nq
    cases nq
  · rw [e, h.hd] at nq
    cases nq
  · obtain ⟨ys, e1, _⟩ := h.rm r hr
    rw [e, nq] at e1
    cases e1
theorem LS.away {q : Addr} {o : HO} {xs : List V} (h : LS H0 H rl kd as rs nss) (n : H0 q = none ∧ q ≠ rl ∧ q ∉ as ∧ q ≠ kd ∧ ∀ r ∈ rs, r.1 ≠ q) (hq : H q = some (.lst xs)) : LS H0 (upd H q o) rl kd as rs nss := by
  obtain ⟨n0, n1, n2, n3, n4⟩ := n
  exact ⟨ex_upd h.e n0, at_ne h.hr n1.symm, fun i a ha => at_ne (h.hk i a ha) fun e => n2 (by rw [← e]; exact List.mem_of_getElem? ha), at_ne h.hd n3.symm, fun r hr => (h.rm r hr).mono (fun ys e => at_ne e (n4 r hr)) (tup_upd hq fun _ h => nomatch h), h.z1, h.z2, h.z3, h.z4, h.z5⟩
end
/-- rooms: their sizes, one behind another -/
def PR (rs : List (Addr × Nat × Nat)) (many : Nat) : Prop := (∀ r ∈ rs, 2 ≤ r.2.2 ∧ r.2.2 ≤ 12 ∧ r.2.1 + r.2.2 ≤ many) ∧ rs.Pairwise fun r r' => r.2.1 + r.2.2 ≤ r'.2.1
def KC (nss : Nat → List Nat) (many : Nat) : Prop := ∀ i, (nss i).Nodup ∧ ∀ v ∈ nss i, v < many
def KJ (nss : Nat → List Nat) (many : Nat) (pre : List Nat) : Prop := ∀ i, (nss i).Nodup ∧ (∀ v ∈ nss i, v < many + 1) ∧ (many ∈ nss i → ∃ c ∈ pre, digT.cps.toList[i]? = some c)
/-- what is put in a room -/
def HI (H : Hp) (items : List V) (m : List Nat) : Prop := ∀ (j : Nat) (y : V), items[j]? = some y → ∃ (t : Addr) (lk : Str) (own : List Nat), y = .ref t ∧ H t = some (.tup [.str lk, .str (S own)]) ∧ own.Sublist m
theorem HI.mono {H H' : Hp} {items : List V} {m : List Nat} (h : HI H items m) (e : Tk H H') : HI H' items m := fun j y hj => by
  obtain ⟨t, lk, own, h1, h2, h3⟩ := h j y hj
  exact ⟨t, lk, own, h1, e t _ h2, h3⟩
theorem PR.snoc {rs : List (Addr × Nat × Nat)} {many n : Nat} {q : Addr} (h : PR rs many) (h1 : 2 ≤ n) (h2 : n ≤ 12) : PR (rs ++ [(q, many, n)]) (many + n) := by
  refine ⟨fun r hr => ?_, ?_⟩
  · rcases List.mem_append.mp hr with m | m
    · obtain ⟨a, b, c⟩ := h.1 r m
      exact ⟨a, b, by omega⟩
    · rw [List.mem_singleton.mp m]
      exact ⟨h1, h2, Nat.le_refl _⟩
  · rw [List.pairwise_append]
    refine ⟨h.2, List.pairwise_singleton _ _, fun r hr s hs => ?_⟩
    rw [List.mem_singleton.mp hs]
    exact (h.1 r hr).2.2
end K21
end

/-! K21LK -/
section
set_option Elab.async false
set_option linter.all false
set_option maxRecDepth 100000
set_option maxHeartbeats 4000000
/-! links and swaps while two stores are made -/
namespace K21
open PySem PySem.Spec PyProof.Rows L2
open Evl (Ex ex_l ex_t)
def prD2 (q : Nat × Nat) : PyData := .tuple [.int (q.1 : Nat), .int (q.2 : Nat)]
theorem prD2_eqv (a b : Nat × Nat) : PyData.eqv (prD2 a) (prD2 b) = decide (a = b) := by
  have e := eqv_ints [((a.1 : Nat) : Int), ((a.2 : Nat) : Int)] [((b.1 : Nat) : Int), ((b.2 : Nat) : Int)]
  refine Eq.trans e (decide_eq_decide.mpr ⟨fun h => ?_, fun h => by rw [h]⟩)
  injection h with h1 h2
  injection h2 with h2 _
  exact Prod.ext (by omega) (by omega)
theorem prD2_any (ps : List (Nat × Nat)) (q : Nat × Nat) : ((ps.map prD2).any fun z => PyData.eqv z (prD2 q)) = decide (q ∈ ps) := by
  induction ps with
  | nil => simp
  | cons a ps ih =>
    rw [List.map_cons, List.any_cons, ih, prD2_eqv]
    by_cases h : a = q
    · subst h
      simp
    · have h' : q ≠ a := fun e => h e.symm
      simp [h, h']
theorem lay_pairs : ∀ ps : List (Nat × Nat), PyData.canLayAll0 (ps.map prD2) = true
  | [] => by simp [PyData.canLayAll0]
  | x :: l => by simp [PyData.canLayAll0, PyData.canLay0, prD2, lay_pairs l]
theorem depth_pairs : ∀ ps : List (Nat × Nat), PyData.depthAll (ps.map prD2) ≤ 1
  | [] => by simp [PyData.depthAll]
  | x :: l => by
    have h := depth_pairs l
    have e : (prD2 x).depth = 1 := by simp [prD2, PyData.depth, PyData.depthAll]
    simp only [List.map_cons, PyData.depthAll]
    omega
theorem shaped_pairs (ps : List (Nat × Nat)) : SeqAt.shaped (.list (ps.map prD2)) = true := by
  show (PyData.canLay0 (.list (ps.map prD2)) && decide (PyData.depth (.list (ps.map prD2)) ≤ 64)) = true
  rw [Bool.and_eq_true]
  have := depth_pairs ps
  exact ⟨by simp only [PyData.canLay0]; exact lay_pairs ps, decide_eq_true (by simp only [PyData.depth]; omega)⟩
theorem dpAll_pairs {K : PySem.W.Frag} {H : Hp} : ∀ {ys : List V} {ps : List (Nat × Nat)}, Tups H ys (ps.map prI) → DpAll K H ys (ps.map prD2)
  | [], [], _ => .nil
  | [], _ :: _, h => by cases h.1
  | _ :: _, [], h => by cases h.1
  | y :: ys, q :: ps, h => by
    obtain ⟨t, rfl, ht⟩ := h.2 0 y (prI q) rfl rfl
    refine .cons (dpT (l := [((q.1 : Nat) : Int), ((q.2 : Nat) : Int)]) (.of ht)) (dpAll_pairs ⟨Nat.succ.inj h.1, fun j y f h1 h2 => h.2 (j + 1) y f h1 h2⟩)
/-- links while they grow -/
structure LK2 (H0 H : Hp) (ld : Addr) (bs : List Addr) (many cnt : Nat) : Prop where
  e : Ex H0 H
  d : H ld = some (.dK (dcl smallT.cps.toList bs))
  l : ∀ (i : Nat) (b : Addr), bs[i]? = some b → ∃ (ys : List V) (ps : List (Nat × Nat)), H b = some (.lst ys) ∧ Tups H ys (ps.map prI) ∧ ps.Nodup ∧ ps.length ≤ cnt ∧ ∀ q ∈ ps, q.1 < many ∧ q.2 < many
  z : ∀ b ∈ bs, H0 b = none
  n : bs.Nodup
theorem LK2.up {H0 H H' : Hp} {ld : Addr} {bs : List Addr} {many cnt : Nat} (h : LK2 H0 H ld bs many cnt) (e : Ex H H') : LK2 H0 H' ld bs many cnt :=
  ⟨h.e.trans e, e _ _ h.d, fun i b hb => by
    obtain ⟨ys, ps, h1, h2, h3⟩ := h.l i b hb
    exact ⟨ys, ps, e _ _ h1, h2.ex e, h3⟩, h.z, h.n⟩
theorem LK2.le {H0 H : Hp} {ld : Addr} {bs : List Addr} {many cnt cnt' : Nat} (h : LK2 H0 H ld bs many cnt) (c : cnt ≤ cnt') : LK2 H0 H ld bs many cnt' :=
  ⟨h.e, h.d, fun i b hb => by
    obtain ⟨ys, ps, h1, h2, h3, h4, h5⟩ := h.l i b hb
    exact ⟨ys, ps, h1, h2, h3, Nat.le_trans h4 c, h5⟩, h.z, h.n⟩
theorem LK2.add {H0 H : Hp} {ld b t : Addr} {bs : List Addr} {many cnt i : Nat} {ys : List V} {ps : List (Nat × Nat)} {q : Nat × Nat} (h : LK2 H0 H ld bs many cnt) (hb : bs[i]? = some b) (h1 : H b = some (.lst ys)) (h2 : Tups H ys (ps.map prI)) (h3 : ps.Nodup) (h4 : ps.length ≤ cnt)
    (h5 : ∀ q ∈ ps, q.1 < many ∧ q.2 < many) (hq : q ∉ ps) (hq2 : q.1 < many ∧ q.2 < many) (ht : H t = some (.tup (prI q))) : LK2 H0 (upd H b (.lst (ys ++ [.ref t]))) ld bs many (cnt + 1) := by
  have tk := tup_upd (o := .lst (ys ++ [.ref t])) h1 fun _ h => nomatch h
  refine ⟨ex_upd h.e (h.z b (List.mem_of_getElem? hb)), at_ne h.d (fun e => by have := h.d; rw [e, h1] at this; cases this), fun j c hc => ?_, h.z, h.n⟩
  by_cases e : c = b
  · subst e
    refine ⟨_, ps ++ [q], upd_same, ?_, ?_, by rw [List.length_append]; exact Nat.succ_le_succ h4, fun r hr => ?_⟩
    · rw [List.map_append]
      exact (h2.app (Tups.one ht)).mono tk
    · rw [List.nodup_append]
      exact ⟨h3, by simp, fun x hx y hy e => hq (by rw [List.mem_singleton.mp hy] at e; rw [← e]; exact hx)⟩
    · rcases List.mem_append.mp hr with m | m
      · exact h5 r m
      · rw [List.mem_singleton.mp m]
        exact hq2
  · obtain ⟨zs, ps', g1, g2, g3, g4, g5⟩ := h.l j c hc
    exact ⟨zs, ps', at_ne g1 e, g2.mono tk, g3, Nat.le_succ_of_le g4, g5⟩
theorem LK2.at {H0 H : Hp} {ld : Addr} {bs : List Addr} {many cnt : Nat} (h : LK2 H0 H ld bs many cnt) (c : cnt ≤ 10000) (hl : bs.length = smallT.cps.toList.length) : LkAt H ld many := by
  have nd : smallT.cps.toList.Nodup := by rw [small_list]; decide
  have l26 : smallT.cps.toList.length = 26 := by rw [small_list]; decide
  have ll : (dcl smallT.cps.toList bs).length = 26 := by
    unfold dcl
    rw [List.length_zipWith, hl, Nat.min_self, l26]
  refine ⟨_, h.d, by rw [ll]; decide, dcl_nd hl.symm nd, fun i k v hi => ?_⟩
  have hi26 : i < 26 := by rw [← ll]; exact (List.getElem?_eq_some_iff.mp hi).1
  have e1 : smallT.cps.toList[i]? = some (smallT.cps.toList[i]'(by omega)) := List.getElem?_eq_getElem _
  have e2 : bs[i]? = some (bs[i]'(by omega)) := List.getElem?_eq_getElem _
  rw [dcl_get e1 e2] at hi
  cases hi
  obtain ⟨ys, ps, g1, g2, g3, g4, g5⟩ := h.l i _ e2
  refine ⟨_, _, ys, ps, rfl, ?_, rfl, g1, g2, g3, Nat.le_trans g4 c, g5⟩
  have hm := List.mem_of_getElem? e1
  generalize smallT.cps.toList[i]'(by omega) = ch at hm
  rw [small_list] at hm
  simp only [List.mem_cons, List.not_mem_nil, or_false] at hm
  omega
theorem LS.kat {H0 H : Hp} {rl kd : Addr} {as : List Addr} {rs : List (Addr × Nat × Nat)} {nss : Nat → List Nat} {many : Nat} (h : LS H0 H rl kd as rs nss) (hk : KC nss many) (c : many ≤ 10000) (hl : as.length = digT.cps.toList.length) : KdAt H kd many := by
  have nd : digT.cps.toList.Nodup := by rw [dig_list]; decide
  have l10 : digT.cps.toList.length = 10 := by rw [dig_list]; decide
  have ll : (dcl digT.cps.toList as).length = 10 := by
    unfold dcl
    rw [List.length_zipWith, hl, Nat.min_self, l10]
  refine ⟨_, h.hd, by rw [ll]; decide, dcl_nd hl.symm nd, fun i k v hi => ?_⟩
  have hi10 : i < 10 := by rw [← ll]; exact (List.getElem?_eq_some_iff.mp hi).1
  have e1 : digT.cps.toList[i]? = some (digT.cps.toList[i]'(by omega)) := List.getElem?_eq_getElem _
  have e2 : as[i]? = some (as[i]'(by omega)) := List.getElem?_eq_getElem _
  rw [dcl_get e1 e2] at hi
  cases hi
  refine ⟨_, _, nss i, rfl, ?_, rfl, h.hk i _ e2, (hk i).1, Nat.le_trans (Bf.nodup_len _ (hk i).1 (hk i).2) c, (hk i).2⟩
  have hm := List.mem_of_getElem? e1
  generalize digT.cps.toList[i]'(by omega) = ch at hm
  rw [dig_list] at hm
  simp only [List.mem_cons, List.not_mem_nil, or_false] at hm
  omega
/-- swaps while they grow -/
structure SW (sk : List (Key × V)) (many : Nat) (src : Nat → Prop) : Prop where
  sym : ∀ (v : Nat) (z : V), valV sk (.inl (v : Int)) = some z → ∃ w : Nat, z = .int (w : Nat) ∧ w < many ∧ valV sk (.inl (w : Int)) = some (.int (v : Nat))
  key : ∀ v : Nat, valV sk (.inl (v : Int)) ≠ none → src v
theorem SW.two {sk : List (Key × V)} {many : Nat} {src src' : Nat → Prop} {a b : Nat} (h : SW sk many src) (ab : a ≠ b) (ha : a < many) (hb : b < many) (na : ¬ src a) (nb : ¬ src b) (s1 : ∀ v, src v → src' v) (s2 : src' a) (s3 : src' b) :
    SW (putK (putK sk (.inl (a : Int)) (.int (b : Nat))) (.inl (b : Int)) (.int (a : Nat))) many src' := by
  have va : valV sk (.inl (a : Int)) = none := Classical.byContradiction fun q => na (h.key a q)
  have vb : valV sk (.inl (b : Int)) = none := Classical.byContradiction fun q => nb (h.key b q)
  have val : ∀ v : Nat, valV (putK (putK sk (.inl (a : Int)) (.int (b : Nat))) (.inl (b : Int)) (.int (a : Nat))) (.inl (v : Int)) = if v = b then some (.int (a : Nat)) else if v = a then some (.int (b : Nat)) else valV sk (.inl (v : Int)) := fun v => by
    rw [valV_put, valV_put]
    by_cases e : v = b
    · rw [if_pos (by rw [e]), if_pos e]
    · rw [if_neg (inl_ne e), if_neg e]
      by_cases e2 : v = a
      · rw [if_pos (by rw [e2]), if_pos e2]
      · rw [if_neg (inl_ne e2), if_neg e2]
  refine ⟨fun v z hv => ?_, fun v hv => ?_⟩
  · rw [val] at hv
    by_cases e : v = b
    · rw [if_pos e] at hv
      cases hv
      refine ⟨a, rfl, ha, ?_⟩
      rw [val, if_neg ab, if_pos rfl, e]
    · rw [if_neg e] at hv
      by_cases e2 : v = a
      · rw [if_pos e2] at hv
        cases hv
        refine ⟨b, rfl, hb, ?_⟩
        rw [val, if_pos rfl, e2]
      · rw [if_neg e2] at hv
        obtain ⟨w, e3, hw, e4⟩ := h.sym v z hv
        refine ⟨w, e3, hw, ?_⟩
        rw [val, if_neg (fun q => by rw [q, vb] at e4; cases e4), if_neg (fun q => by rw [q, va] at e4; cases e4)]
        exact e4
  · rw [val] at hv
    by_cases e : v = b
    · rw [e]
      exact s3
    · rw [if_neg e] at hv
      by_cases e2 : v = a
      · rw [e2]
        exact s2
      · rw [if_neg e2] at hv
        exact s1 v (h.key v hv)
theorem SW.at {sk : List (Key × V)} {many : Nat} {src : Nat → Prop} {H : Hp} {sd : Addr} (h : SW sk many src) (hd : H sd = some (.dK sk)) : ∃ s, SwAt H sd many s := by
  refine ⟨fun v => match valV sk (.inl (v : Int)) with | some (.int i) => i.toNat | _ => v, sk, hd, fun v hv => ?_, fun v hv => ?_, fun u v hu hv e => ?_⟩
  · show (valV sk (.inl (v : Int)) = none ∧ (match valV sk (.inl (v : Int)) with | some (.int i) => i.toNat | _ => v) = v) ∨ valV sk (.inl (v : Int)) = some (.int ((match valV sk (.inl (v : Int)) with | some (.int i) => i.toNat | _ => v : Nat) : Int))
    cases e : valV sk (.inl (v : Int)) with
    | none => exact .inl ⟨rfl, rfl⟩
    | some z =>
      obtain ⟨w, rfl, _, _⟩ := h.sym v z e
      exact .inr rfl
  · show (match valV sk (.inl (v : Int)) with | some (.int i) => i.toNat | _ => v) < many
    cases e : valV sk (.inl (v : Int)) with
    | none => exact hv
    | some z =>
      obtain ⟨w, rfl, hw, _⟩ := h.sym v z e
      exact hw
  · have e : (match valV sk (.inl (u : Int)) with | some (.int i) => i.toNat | _ => u) = (match valV sk (.inl (v : Int)) with | some (.int i) => i.toNat | _ => v) := e
    cases e1 : valV sk (.inl (u : Int)) with
    | none =>
      rw [e1] at e
      cases e2 : valV sk (.inl (v : Int)) with
      | none =>
        rw [e2] at e
        exact e
      | some z =>
        obtain ⟨w, rfl, _, e3⟩ := h.sym v z e2
        rw [e2] at e
        have e : u = w := e
        rw [← e, e1] at e3
        cases e3
    | some y =>
      obtain ⟨x, rfl, _, e3⟩ := h.sym u y e1
      rw [e1] at e
      cases e2 : valV sk (.inl (v : Int)) with
      | none =>
        rw [e2] at e
        have e : x = v := e
        rw [e, e2] at e3
        cases e3
      | some z =>
        obtain ⟨w, rfl, _, e4⟩ := h.sym v z e2
        rw [e2] at e
        have e : x = w := e
        rw [e, e4] at e3
        injection e3 with e3
        injection e3 with e3
        omega
theorem LkAt.up {H H' : Hp} {ld : Addr} {n : Nat} (h : LkAt H ld n) (e : Ex H H') : LkAt H' ld n := by
  obtain ⟨lk, h1, h2, h3, h4⟩ := h
  refine ⟨lk, e _ _ h1, h2, h3, fun i k v hi => ?_⟩
  obtain ⟨c, a, ys, ps, g1, g2, g3, g4, g5, g6⟩ := h4 i k v hi
  exact ⟨c, a, ys, ps, g1, g2, g3, e _ _ g4, g5.ex e, g6⟩
theorem KdAt.up {H H' : Hp} {kd : Addr} {n : Nat} (h : KdAt H kd n) (e : Ex H H') : KdAt H' kd n := by
  obtain ⟨lk, h1, h2, h3, h4⟩ := h
  refine ⟨lk, e _ _ h1, h2, h3, fun i k v hi => ?_⟩
  obtain ⟨c, a, ns, g1, g2, g3, g4, g5⟩ := h4 i k v hi
  exact ⟨c, a, ns, g1, g2, g3, e _ _ g4, g5⟩
theorem SwAt.up {H H' : Hp} {sd : Addr} {n : Nat} {s : Nat → Nat} (h : SwAt H sd n s) (e : Ex H H') : SwAt H' sd n s := by
  obtain ⟨sk, h1, h2⟩ := h
  exact ⟨sk, e _ _ h1, h2⟩
end K21
end

/-! K21W25 -/
section
set_option Elab.async false
set_option linter.all false
set_option maxRecDepth 100000
set_option maxHeartbeats 4000000
/-! the law -/
namespace K21
open PySem PySem.Spec PyProof.Rows L2
open Evl (Ex ex_l ex_t)
def sp_law (K : PySem.W.Frag) : Sp := fun vs H Q _ => ∃ (a : Addr) (ns : List Int), vs = [.ref a] ∧ SqL K H a (ns.map V.int) ∧ ns.length ≤ 63 ∧ ∀ H', Q (.bl true) H'
theorem way_back (bk : Bool) : decide (V.str (way bk) = V.str "back") = bk := by cases bk <;> decide +kernel
theorem backs_given (ys : List V) (pl : List (Nat × Bool)) (h : ys.length = pl.length) : (Evl.given ys.length (fun i => (pl.getD i (0, false)).2) (fun i => ys.getD i .non)).length = Bf.backs pl := by
  unfold Evl.given Bf.backs
  rw [List.length_map, ← filter_get (0, false) pl (·.2), List.length_map, h]
theorem costD_eqv (a : Bf.Cost) : PyData.eqv (costD a) (costD a) = true := by
  have := eqv_ints [((a.1 : Nat) : Int), ((a.2 : Nat) : Int)] [((a.1 : Nat) : Int), ((a.2 : Nat) : Int)]
  rw [decide_eq_true rfl] at this
  exact this
theorem draw3 {z : V} (h : z ∈ [V.str "a", V.str "ab", V.str "abc"]) : ∃ ls : List Nat, z = .str (S ls) ∧ ls ≠ [] ∧ ls.length ≤ 26 ∧ ∀ c ∈ ls, 97 ≤ c ∧ c ≤ 122 := by
  simp only [List.mem_cons, List.not_mem_nil, or_false] at h
  rcases h with rfl | rfl | rfl
  · exact ⟨[97], congrArg V.str (by decide +kernel), by decide, by decide, by decide⟩
  · exact ⟨[97, 98], congrArg V.str (by decide +kernel), by decide, by decide, by decide⟩
  · exact ⟨[97, 98, 99], congrArg V.str (by decide +kernel), by decide, by decide, by decide⟩
theorem vtx_strs {ks : List Pt} : ∀ x ∈ vtx ks, ∃ z, x = .str z := fun x hx => by
  obtain ⟨m, _, rfl⟩ := List.mem_map.mp hx
  exact ⟨_, rfl⟩
section
variable {P : Program} {w : World} {K : PySem.W.Frag} {mg : Str → Option Value} {base : Heap} {C CL : Addr}
-- law: 0:_law_script, 1:_law_state, 2:_law_turn_here, 3:_law_path_here, 4:_law_kept, 5:_law_k, 6:_law_word_here, 7:_law_book, 8:_law_costs, 9:_law_last, 10:_law_told, 11:_law_plan, 12:_law_cost, 13:_law_x
theorem sc_law : FnScope ["_law_script", "_law_state", "_law_turn_here", "_law_path_here", "_law_kept", "_law_k", "_law_word_here", "_law_book", "_law_costs", "_law_last", "_law_told", "_law_plan", "_law_cost", "_law_x"] ["_law_script"] (defScope s_law) := ⟨rfl, rfl, rfl, by decide +kernel, rfl, by decide +kernel, by decide +kernel⟩
theorem ok_law {f : Addr} {fd : FuncData} (F : FnP K "law" "law" s_law f fd) (T : Fx K mg) (B : ClB K C) (C_Book : Mkc P w K mg base "Book" C 5 ["self", "manner", "kept"] (sp_Book_init K C) []) (C_law_fresh : Cal P w K mg base "_law_fresh" 1 ["_law_script"] (sp_law_fresh K)) (C_law_path : Cal P w K mg base "_law_path" 5 ["_law_state", "_law_manner", "_law_letters", "_law_many"] (sp_law_path K)) (C_law_pieces : Cal P w K mg base "_law_pieces" 4 ["_law_state", "_law_path_here", "_law_many"] (sp_law_pieces K)) (C_verdict : Cal P w K mg base "verdict" 10 ["book", "path"] (sp_verdict K C)) (C_law_one : Cal P w K mg base "_law_one" 3 ["_law_state", "_law_things"] (sp_law_one K)) (C_law_take : Cal P w K mg base "_law_take" 2 ["_law_state", "_law_many"] (sp_law_take K)) (C_law_crowded : Cal P w K mg base "_law_crowded" 1 ["_law_kept"] (sp_law_crowded K)) (C_law_reached : Cal P w K mg base "_law_reached" 3 ["_law_path_here", "_law_kept"] (sp_law_reached K)) (C_law_same : Cal P w K mg base "_law_same" 1 ["_law_found", "_law_due"] (sp_law_same K)) (C_law_read : Cal P w K mg base "_law_read" 1 ["_law_x"] (sp_law_read K)) (C_is_told : Cal P w K mg base "is_told" 10 ["book", "path"] (sp_is_told K C)) (C_law_is_plan : Cal P w K mg base "_law_is_plan" 4 ["_law_manner", "_law_kept", "_law_path_here", "_law_plan"] (sp_law_is_plan K)) : FnOk P w K mg base CX0 11 f fd ["_law_script"] (sp_law K) := by
  refine F.ok sc_law (fun vs H Q E h => by obtain ⟨a, ns, rfl, ha, hz, k⟩ := h; rfl) (fun cdv A outer s H vs Q E hr h => ?_)
  obtain ⟨a, ns, rfl, ha, hz, k⟩ := h
  have nd := sc_law.nd
  have hu := hu_of hr
  refine ⟨_, PSs.nox (pss_cons (ps_set (i := 1) nd rfl (Or.inl rfl) (pe_cal C_law_fresh (hr.mono (by decide)) (by rfl) (pa_cons (pv 0) pa_nil))) -- _law_state = _law_fresh(_law_script)
      (pss_cons (ps_for PassesOwn.never rfl (pi_range1 (by rfl) T.n_range (pa_cons pe_int pa_nil)) (pg_name (i := 2) nd rfl (Or.inl rfl))
        (pss_cons (ps_set (i := 3) nd rfl (Or.inl rfl) (pe_cal C_law_path (hr.mono (by decide)) (by rfl) (pa_cons (pv 1) (pa_cons pe_str (pa_cons (pe_cal C_law_one (hr.mono (by decide)) (by rfl) (pa_cons (pv 1) (pa_cons (pe_lst (pa_cons pe_str (pa_cons pe_str (pa_cons pe_str pa_nil)))) pa_nil))) (pa_cons pe_int pa_nil)))))) -- _law_path_here = _law_path(_law_state, 'any', _law_one(_law_state, ['a', 'ab', 'abc']), 8)
        (pss_cons (ps_set (i := 4) nd rfl (Or.inl rfl) (pe_cal C_law_pieces (hr.mono (by decide)) (by rfl) (pa_cons (pv 1) (pa_cons (pv 3) (pa_cons pe_int pa_nil))))) -- _law_kept = _law_pieces(_law_state, _law_path_here, 4)
        (Evl.pss_cut (ps_for PassesOwn.never rfl (pi_range1 (by rfl) T.n_range (pa_cons (pe_cal C_law_take (hr.mono (by decide)) (by rfl) (pa_cons (pv 1) (pa_cons pe_int pa_nil))) pa_nil)) (pg_name (i := 5) nd rfl (Or.inl rfl))
          (pss_cons (ps_set (i := 6) nd rfl (Or.inl rfl) (pe_cal C_law_path (hr.mono (by decide)) (by rfl) (pa_cons (pv 1) (pa_cons pe_str (pa_cons pe_str (pa_cons pe_int pa_nil)))))) -- _law_word_here = _law_path(_law_state, 'any', 'ab', 4)
          (pss_one (ps_set (i := 4) nd rfl (Or.inl rfl) (pe_ifExp (pt_cmpR op_notIn_seq (pv 6) (pv 4) (by rfl)) (pe_op op_cat (pv 4) (pe_lst (pa_cons (pv 6) pa_nil))) (pv 4)))))) -- for _law_k in range(_law_take(_law_state, 3)):
        (Evl.pss_cut (ps_if (pt_mid (PW.pt (pw_and (pt_cmpR op_eq (pe_cal C_law_take (hr.mono (by decide)) (by rfl) (pa_cons (pv 1) (pa_cons pe_int pa_nil))) pe_int (nomark _)) (pw_and1 (pt_cmpR op_notIn_sign pe_str (pv 3) rfl)))))
          (pss_one (ps_set (i := 4) nd rfl (Or.inl rfl) (pe_cal C_law_crowded (hr.mono (by decide)) (by rfl) (pa_cons (pv 4) pa_nil))))
          pss_nil) -- if _law_take(_law_state, 3) == 0 and 'c' not in _law_path_here:
        (pss_cons (ps_par3 (i := 7) (j := 8) (l := 9) (by rfl) nd rfl rfl rfl (by decide) (by decide) (by decide) rfl rfl rfl (pa_cons (pe_mkc C_Book (hr.mono (by decide)) (by rfl) (pa_cons pe_str (pa_cons (pv 4) pa_nil))) (pa_cons (pe_cal C_law_reached (hr.mono (by decide)) (by rfl) (pa_cons (pv 3) (pa_cons (pv 4) pa_nil))) (pa_cons (pe_callB call_len_seq (by rfl) T.n_len (by decide +kernel) (pa_cons (pe_ix ix_tup (pe_cal C_law_read (hr.mono (by decide)) (by rfl) (pa_cons (pv 3) pa_nil)) pe_int (fun _ _ => rfl)) pa_nil)) pa_nil))) (by rfl)) -- _law_book, _law_costs, _law_last = (Book('any', _law_kept), _law_reached(_law_path_here, _law_kept), len(_law_read(_law_path_here)[0]))
        (pss_cons (ps_set (i := 10) nd rfl (Or.inl rfl) (pe_cal C_verdict (hr.mono (by decide)) (by rfl) (pa_cons (pv 7) (pa_cons (pv 3) pa_nil)))) -- _law_told = verdict(_law_book, _law_path_here)
        (pss_cons (ps_if (PW.pt (pw_or (pt_not (pt_val (pe_cal C_law_same (hr.mono (by decide)) (by rfl) (pa_cons (pe_cal C_is_told (hr.mono (by decide)) (by rfl) (pa_cons (pv 7) (pa_cons (pv 3) pa_nil))) (pa_cons (pe_cmp (pc_din hu (pv 9) (pv 8))) pa_nil))))) (pw_or1 (pt_not (pt_val (pe_callB call_isi (by rfl) T.n_isinstance (by decide +kernel) (pa_cons (pv 10) (pa_cons (pe_tyn "tuple" (by rfl) T.n_tuple (by decide +kernel)) pa_nil))))))))
          (pss_one (ps_ret pe_bl))
          pss_nil) -- if not _law_same(is_told(_law_book, _law_path_here), _law_last in _law_costs) or not isinstance(_law_told, tuple):
        (pss_cons (ps_if (pt_not (pt_val (pe_cal C_law_same (hr.mono (by decide)) (by rfl) (pa_cons (pe_ix ix_tup (pv 10) pe_int (fun _ _ => rfl)) (pa_cons (pe_ifExp (pt_cmp (pc_din hu (pv 9) (pv 8))) pe_str pe_str) pa_nil)))))
          (pss_one (ps_ret pe_bl))
          pss_nil) -- if not _law_same(_law_told[0], 'told' if _law_last in _law_costs else 'open'):
        (pss_one (ps_if (pt_cmp (pc_din hu (pv 9) (pv 8)))
          (pss_cons (ps_set (i := 11) nd rfl (Or.inl rfl) (pe_ix ix_tup (pv 10) pe_int (fun _ _ => rfl))) -- _law_plan = _law_told[1]
          (pss_cons (ps_if (PW.pt (pw_or (pt_not (pt_val (pe_callB call_isi (by rfl) T.n_isinstance (by decide +kernel) (pa_cons (pv 11) (pa_cons (pe_tyn "list" (by rfl) T.n_list (by decide +kernel)) pa_nil))))) (pw_or (pt_val (pe_callB (cr_any rfl) (by rfl) T.n_any (by decide +kernel) (pa_cons (pe_lc (own := [("_law_x", 13)]) (g := (gName 13)) (by rfl) nd (pi_list (pv 11)) (blkOk_by (N := ["_law_script", "_law_state", "_law_turn_here", "_law_path_here", "_law_kept", "_law_k", "_law_word_here", "_law_book", "_law_costs", "_law_last", "_law_told", "_law_plan", "_law_cost", "_law_x"]) (sc := defScope s_law) (own := [("_law_x", 13)]) (by decide +kernel)) (fun _ _ _ _ _ => (pg_name (i := 13) nd rfl (Or.inl rfl) (.inr rfl))) (fun _ _ _ _ _ => pts_nil) (fun _ _ _ _ _ => (pe_not (pe_callB (call_isi : CallR _ (.builtin "isinstance") (rIsi K)) (by rfl) T.n_isinstance (by decide +kernel) (pa_cons (pv 13) (pa_cons (pe_tyn "tuple" (by rfl) T.n_tuple (by decide +kernel)) pa_nil)))))) pa_nil))) (pw_or1 (pt_cmpR op_ne (pe_callB call_len_seq (by rfl) T.n_len (by decide +kernel) (pa_cons (pv 10) pa_nil)) pe_int (nomark _))))))
            (pss_one (ps_ret pe_bl))
            pss_nil) -- if not isinstance(_law_plan, list) or any([not isinstance(_law_x, tuple) for _law_x in _law_plan]) or len(_law_told) != 2:
          (pss_cons (ps_set (i := 12) nd rfl (Or.inl rfl) (pe_tup (pa_cons (pe_callB call_len_seq (by rfl) T.n_len (by decide +kernel) (pa_cons (pe_lc (own := [("_law_x", 13)]) (g := (gName 13)) (by rfl) nd (pi_list (pv 11)) (blkOk_by (N := ["_law_script", "_law_state", "_law_turn_here", "_law_path_here", "_law_kept", "_law_k", "_law_word_here", "_law_book", "_law_costs", "_law_last", "_law_told", "_law_plan", "_law_cost", "_law_x"]) (sc := defScope s_law) (own := [("_law_x", 13)]) (by decide +kernel)) (fun _ _ _ _ _ => (pg_name (i := 13) nd rfl (Or.inl rfl) (.inr rfl))) (fun _ _ _ _ _ => pts_one (pt_cmpR op_eq (pe_ix (ix_tup : IxR _ (rIxT K)) (pv 13) pe_int (fun _ _ => rfl)) pe_str (nomark _))) (fun _ _ _ _ _ => (pv 13))) pa_nil)) (pa_cons (pe_callB call_len_seq (by rfl) T.n_len (by decide +kernel) (pa_cons (pv 11) pa_nil)) pa_nil)))) -- _law_cost = (len([_law_x for _law_x in _law_plan if _law_x[1] == 'back']), len(_law_plan))
          (pss_one (ps_if (PW.pt (pw_or (pt_not (pt_val (pe_cal C_law_is_plan (hr.mono (by decide)) (by rfl) (pa_cons pe_str (pa_cons (pv 4) (pa_cons (pv 3) (pa_cons (pv 11) pa_nil))))))) (pw_or1 (pt_cmpR (op_neD hr.units) (pv 12) (pe_dget hu (pv 8) (pv 9) (fun _ _ => rfl)) (nomark _)))))
            (pss_one (ps_ret pe_bl))
            pss_nil)))))
          pss_nil))))))))))) -- for _law_turn_here in range(9):
      (pss_one (ps_ret pe_bl)))), ?_⟩
  refine ⟨_, rfl, a, ns, rfl, ha, hz, fun st c H1 nst nc e1 hS => ?_⟩
  refine ⟨_, rfl, by decide, by decide, ?_⟩
  refine for_it walk_r0 (fun i σ H' => SAt H' st c ∧ ∃ x2 x3 x4 x5 x6 x7 x8 x9 x10 x11 x12, σ = [some (.ref a), some (.ref st), x2, x3, x4, x5, x6, x7, x8, x9, x10, x11, x12, none])
    ⟨hS, _, _, _, _, _, _, _, _, _, _, _, rfl⟩ (fun _ _ _ _ _ => trivial) ?_ ?_
  case refine_2 =>
    rintro σ H' ⟨s, x2, x3, x4, x5, x6, x7, x8, x9, x10, x11, x12, rfl⟩
    exact k H'
  rintro i v σ H0 H2 hi ⟨s, x2, x3, x4, x5, x6, x7, x8, x9, x10, x11, x12, rfl⟩ ⟨rfl, rfl⟩
  refine ⟨_, rfl, _, rfl, szk, fun l nl => ⟨st, c, l, _, rfl, s.set (s.ne nl) (s.nc nl), upd_same, s.ne nl, (fun e => nomatch e), by simp, fun H3 z f3 s3 hz3 => ?_⟩⟩
  obtain ⟨ls, rfl, hls, hll, hsm⟩ := draw3 hz3
  refine ⟨st, c, ls, 8, rfl, by decide, by decide, hls, hll, hsm, s3, fun H4 p f4 s4 hp => ?_⟩
  have l8 := hp.l8
  refine ⟨_, rfl, _, rfl, st, c, p, 4, rfl, hp, by decide, s4, fun H5 kl ks nkl f5 s5 hkl ko kn kle => ?_⟩
  refine ⟨fun σ' H' => SAt H' st c ∧ ∃ (kl : Addr) (ks : List Pt) (x2 x5 x6 x7 x8 x9 x10 x11 x12 : Option V), σ' = [some (.ref a), some (.ref st), x2, some (.str p.txt), some (.ref kl), x5, x6, x7, x8, x9, x10, x11, x12, none] ∧ H' kl = some (.lst (vtx ks)) ∧ (∀ q ∈ ks, q.Ok) ∧ (ks.map Pt.cs).Nodup ∧ ks.length ≤ 8, ?_, ?_⟩
  · refine ⟨_, rfl, st, c, 3, rfl, by decide, by decide, s5, fun H6 d f6 s6 hd => ⟨_, rfl, by omega, by omega, ?_⟩⟩
    rw [Int.toNat_natCast]
    refine for_it walk_r0 (fun i σ' H' => SAt H' st c ∧ ∃ (kl : Addr) (ks : List Pt) (x2 x5 x6 x7 x8 x9 x10 x11 x12 : Option V), σ' = [some (.ref a), some (.ref st), x2, some (.str p.txt), some (.ref kl), x5, x6, x7, x8, x9, x10, x11, x12, none] ∧ H' kl = some (.lst (vtx ks)) ∧ (∀ q ∈ ks, q.Ok) ∧ (ks.map Pt.cs).Nodup ∧ ks.length ≤ 4 + i)
      ⟨s6, kl, ks, _, _, _, _, _, _, _, _, _, rfl, f6 _ _ hkl (s5.not_str hkl vtx_strs), ko, kn, kle⟩ (fun _ _ _ _ _ => trivial) ?_ ?_
    case refine_2 =>
      rintro σ H' ⟨s, kl, ks, y2, y5, y6, y7, y8, y9, y10, y11, y12, rfl, hkl, ko, kn, kle⟩
      exact ⟨s, kl, ks, _, _, _, _, _, _, _, _, _, rfl, hkl, ko, kn, by omega⟩
    rintro j v σ Ha H7 hj ⟨s7, kl, ks, y2, y5, y6, y7, y8, y9, y10, y11, y12, rfl, hkl, ko, kn, kle⟩ ⟨rfl, rfl⟩
    refine ⟨_, rfl, st, c, [97, 98], 4, by rw [show S [97, 98] = ("ab" : Str) by decide +kernel]; rfl, by decide, by decide, by decide, by decide, by decide, s7, fun H8 q f8 s8 hq => ?_⟩
    have hk8 := f8 _ _ hkl (s7.not_str hkl vtx_strs)
    refine ⟨_, rfl, _, rfl, kl, _, rfl, .inl (.of hk8), rfl, fl_vtx _, _, rfl, ?_⟩
    cases hin : inV (.str q.txt) (vtx ks) with
    | true => exact iteF ⟨_, rfl, s8, kl, ks, _, _, _, _, _, _, _, _, _, rfl, hk8, ko, kn, Nat.le_succ_of_le kle⟩
    | false =>
      refine iteT ⟨_, rfl, _, rfl, szk, fun m nm => ⟨kl, m, _, _, rfl, rfl, at_new hk8 nm, upd_same, by rw [vtx_len]; exact sz3 (by show _ + 1 ≤ _; omega), fun u nu => ?_⟩⟩
      refine ⟨(s8.ex (Ex.new nm)).ex (Ex.new nu), u, ks ++ [q], _, _, _, _, _, _, _, _, _, rfl, ?_, fun r hr => ?_, ?_, ?_⟩
      · rw [upd_same, vtx, vtx, List.map_append]
        rfl
      · rcases List.mem_append.mp hr with h | h
        · exact ko r h
        · rw [List.mem_singleton.mp h]
          exact hq
      · rw [List.map_append, List.nodup_append]
        exact ⟨kn, by simp, fun x hx y hy e => not_inV hin (by rw [List.mem_singleton.mp hy] at e; rw [← e]; exact hx)⟩
      · rw [List.length_append]
        show ks.length + 1 ≤ _
        omega
  rintro σ H6 ⟨s6, kl, ks, y2, y5, y6, y7, y8, y9, y10, y11, y12, rfl, hkl, ko, kn, kle⟩
  refine ⟨fun σ' H' => SAt H' st c ∧ ∃ (kl : Addr) (ks : List Pt) (x2 x5 x6 x7 x8 x9 x10 x11 x12 : Option V), σ' = [some (.ref a), some (.ref st), x2, some (.str p.txt), some (.ref kl), x5, x6, x7, x8, x9, x10, x11, x12, none] ∧ H' kl = some (.lst (vtx ks)) ∧ Bok ks, ?_, ?_⟩
  · refine ⟨fun b H1 => SAt H1 st c ∧ Fs st H6 H1, ⟨_, rfl, st, c, 3, rfl, by decide, by decide, s6, fun H7 d f7 s7 hd => ⟨rfl, _, rfl, ite2 (fun _ => ⟨_, rfl, 99, _, congrArg V.str (by decide +kernel), rfl, _, rfl, s7, f7⟩) fun _ => ⟨s7, f7⟩⟩⟩, ?_⟩
    rintro b H7 ⟨s7, f7⟩
    have hk7 := f7 _ _ hkl (s6.not_str hkl vtx_strs)
    cases b with
    | true => exact iteT ⟨_, rfl, kl, ks, rfl, hk7, ⟨ko, kn, kle⟩, fun H8 l ks' nl8 e8 hl8 bk8 => ⟨s7.ex e8, l, ks', _, _, _, _, _, _, _, _, _, rfl, hl8, bk8⟩⟩
    | false => exact iteF ⟨s7, kl, ks, _, _, _, _, _, _, _, _, _, rfl, hk7, ⟨ko, kn, kle⟩⟩
  rintro σ H7 ⟨s7, kl, ks, z2, z5, z6, z7, z8, z9, z10, z11, z12, rfl, hkl, bk⟩
  have l16 : ks.length ≤ 16 := Nat.le_trans bk.le (by decide)
  refine ⟨_, rfl, fun x dx nx ndx hne => ?_⟩
  have e1 : Ex H7 (upd H7 dx (.own x)) := Ex.new ndx
  have nx1 : upd H7 dx (.own x) x = none := by rw [upd_ne hne.symm]; exact nx
  have e2 := ex_new (o := .ins C dx []) e1 nx1
  refine ⟨x, kl, dx, H7, ks, rfl, upd_same, nx, e2, e2 _ _ hkl, bk, fun H8 e8 hB => ⟨rfl, ?_⟩⟩
  refine ⟨_, rfl, _, rfl, kl, p, ks, rfl, hp, e8 _ _ hkl, bk.ok, l16, fun cd H9 kvs ncd e9 hcd hCD => ?_⟩
  refine ⟨_, rfl, p, rfl, hp, fun t1 a1 b1 H10 e10 nt1 na1 nb1 ab1 ht1 ha1 hb1 => ⟨_, _, 0, _, rfl, rfl, .of ht1, rfl, _, _, rfl, .inl (.of ha1), ?_⟩⟩
  rw [vst_len]
  have E10 : Ex H7 H10 := (e8.trans e9).trans e10
  have hB10 := hB.ex (e9.trans e10)
  have hk10 := E10 _ _ hkl
  have hcd10 := e10 _ _ hcd
  have hCD10 := hCD.ex (.of e10)
  have s10 := s7.ex E10
  clear hB hcd hCD ha1 hb1 ht1
  refine ⟨_, _, _, rfl, ?_⟩
  rcases hCD10 p.ls.length with ⟨q1, q2⟩ | ⟨a', t', q1, q2, q3⟩
  · have hc : costOf p ks = none := q1
    refine ⟨_, rfl, _, rfl, x, p, ks, rfl, hB10, bk, hp, (fun a0 h0 => by rw [hc] at h0; cases h0), fun _ H11 tt l1 l2 e11 htt => ?_⟩
    refine ⟨_, rfl, _, rfl, x, p, ks, rfl, hB10.ex e11, bk, hp, fun H12 e12 => ⟨_, rfl, _, rfl, cd, _, rfl, .k (k := .inl (p.ls.length : Int)) (e12 _ _ (e11 _ _ hcd10)), .inl ⟨_, _, rfl, fun H13 e13 => ⟨_, rfl, ?_⟩⟩⟩⟩
    rw [hc, q2]
    have E13 := (e11.trans e12).trans e13
    refine iteF ⟨_, rfl, _, _, _, _, true, rfl, .ty _, .base (.tup (e13 _ _ (e12 _ _ htt))), kit_ty (by decide +kernel), _, rfl, iteF ?_⟩
    refine ⟨_, rfl, _, _, 0, _, rfl, rfl, .of (e13 _ _ (e12 _ _ htt)), rfl, _, rfl, _, rfl, cd, _, rfl, .k (k := .inl (p.ls.length : Int)) (E13 _ _ hcd10), ?_⟩
    rw [q2]
    refine ⟨_, rfl, iteF (.inr ⟨_, _, rfl, fun H14 e14 => ⟨_, rfl, iteNS ?_⟩⟩)⟩
    refine ⟨_, rfl, _, rfl, cd, _, rfl, .k (k := .inl (p.ls.length : Int)) (e14 _ _ (E13 _ _ hcd10)), ?_⟩
    rw [q2]
    exact ⟨_, rfl, iteF ⟨s10.ex (E13.trans e14), _, _, _, _, _, _, _, _, _, _, _, rfl⟩⟩
  · have hc : costOf p ks = some a' := q1
    refine ⟨_, rfl, _, rfl, x, p, ks, rfl, hB10, bk, hp, fun a0 h0 H11 tt l e11 htt hPl => ?_, (fun h => by rw [hc] at h; cases h)⟩
    have ha0 : a0 = a' := by rw [hc] at h0; cases h0; rfl
    subst ha0
    refine ⟨_, rfl, _, rfl, x, p, ks, rfl, hB10.ex e11, bk, hp, fun H12 e12 => ⟨_, rfl, _, rfl, cd, _, rfl, .k (k := .inl (p.ls.length : Int)) (e12 _ _ (e11 _ _ hcd10)), .inl ⟨_, _, rfl, fun H13 e13 => ⟨_, rfl, ?_⟩⟩⟩⟩
    rw [hc, q2]
    have E13 := (e11.trans e12).trans e13
    refine iteF ⟨_, rfl, _, _, _, _, true, rfl, .ty _, .base (.tup (e13 _ _ (e12 _ _ htt))), kit_ty (by decide +kernel), _, rfl, iteF ?_⟩
    refine ⟨_, rfl, _, _, 0, _, rfl, rfl, .of (e13 _ _ (e12 _ _ htt)), rfl, _, rfl, _, rfl, cd, _, rfl, .k (k := .inl (p.ls.length : Int)) (E13 _ _ hcd10), ?_⟩
    rw [q2]
    refine ⟨_, rfl, iteT (.inr ⟨_, _, rfl, fun H14 e14 => ⟨_, rfl, iteNS ?_⟩⟩)⟩
    have E14 := E13.trans e14
    have htt14 := e14 _ _ (e13 _ _ (e12 _ _ htt))
    have hcd14 := E14 _ _ hcd10
    refine ⟨_, rfl, _, rfl, cd, _, rfl, .k (k := .inl (p.ls.length : Int)) hcd14, ?_⟩
    rw [q2]
    obtain ⟨ys, pl, hl, hT, hch, hbk, hlen⟩ := hPl.ex ((e12.trans e13).trans e14)
    have ok := br_ok (p := p) bk.ok
    have ca : a0.2 ≤ p.ls.length := cost_le (Bf.edges_in ok.le) (m := 2 * p.ls.length + 2) (by omega) hc
    have hyl := hT.1
    rw [List.length_map] at hyl
    refine ⟨_, rfl, iteT ⟨_, rfl, _, _, 1, _, rfl, rfl, .of htt14, rfl, ?_⟩⟩
    refine ⟨_, rfl, _, _, _, _, true, rfl, .ty _, .base (.lst hl), kit_ty (by decide +kernel), _, rfl, iteF ⟨_, rfl, l, rfl, ⟨_, .of hl⟩, fun D nD => lc_anyF (walk_list (xs := ys)) (by omega) nD (fun H' e => .of (e _ _ hl)) (fun i x H' H2 Fin hi e ⟨eh, hx⟩ fy => ?_) fun H15 e15 => ?_⟩⟩
    · subst eh
      have hip : i < pl.length := by omega
      obtain ⟨t9, rfl, ht9⟩ := hT.2 i x (prW pl[i]) hx (by rw [List.getElem?_map, List.getElem?_eq_getElem hip]; rfl)
      exact ⟨rfl, _, rfl, _, _, _, _, true, rfl, .ty _, .base (.tup (e _ _ ht9)), kit_ty (by decide +kernel), _, rfl, fy _ (Ex.refl _)⟩
    refine ⟨_, rfl, iteF ⟨_, rfl, _, _, rfl, .inr (.of (e15 _ _ htt14)), rfl, _, rfl, iteNS (x := V.int 2) ?_⟩⟩
    have hl15 := e15 _ _ hl
    have hT15 := hT.ex e15
    refine ⟨_, rfl, l, rfl, ⟨_, .of hl15⟩, fun D nD => lc_pure (walk_list (xs := ys)) (fun i => (pl.getD i (0, false)).2) (fun i => ys.getD i .non) (by omega) nD (fun H' e => .of (e _ _ hl15)) (fun i x H' H2 Fin Fn hi e ⟨eh, hx⟩ fy fn => ?_) fun H16 e16 hD => ?_⟩
    · subst eh
      have hip : i < pl.length := by omega
      obtain ⟨t9, rfl, ht9⟩ := hT15.2 i x (prW pl[i]) hx (by rw [List.getElem?_map, List.getElem?_eq_getElem hip]; rfl)
      rw [getD_of (List.getElem?_eq_getElem hip)] at fy fn
      rw [getD_of hx] at fy
      generalize pl[i] = q at ht9 fy fn
      refine ⟨rfl, _, rfl, _, _, 1, _, rfl, rfl, .of (e _ _ ht9), rfl, rfl, _, rfl, ?_⟩
      rw [way_back]
      cases hq : q.2 with
      | true => exact iteT ⟨_, rfl, fy hq _ (Ex.refl _)⟩
      | false => exact iteF (fn hq _ (Ex.refl _))
    refine ⟨D, _, rfl, .inl (.of hD), _, rfl, l, _, rfl, .inl (.of (e16 _ _ hl15)), szk, fun tc ntc => ?_⟩
    rw [backs_given ys pl hyl, hyl, hbk, hlen]
    have E17 := (e15.trans e16).trans (Ex.new (o := .tup [.int (a0.1 : Nat), .int (a0.2 : Nat)]) ntc)
    have htc : upd H16 tc (.tup [.int (a0.1 : Nat), .int (a0.2 : Nat)]) tc = some (.tup [.int (a0.1 : Nat), .int (a0.2 : Nat)]) := upd_same
    generalize upd H16 tc (.tup [.int (a0.1 : Nat), .int (a0.2 : Nat)]) = H17 at E17 htc ⊢
    refine ⟨_, rfl, _, rfl, _, rfl, kl, l, p, ks, ys, pl, rfl, hp, E17 _ _ (E14 _ _ hk10), bk.ok, E17 _ _ hl, hT.ex E17, hch, by omega, fun H18 e18 => ?_⟩
    have hget : DGet H18 cd (.int (p.ls.length : Nat)) (some (.ref t')) := by
      rw [← q2]
      exact .k (k := .inl (p.ls.length : Int)) (e18 _ _ (E17 _ _ hcd14))
    refine ⟨_, rfl, iteF ⟨_, rfl, _, rfl, _, rfl, cd, _, rfl, hget, costD a0, costD a0, costD_dp (e18 _ _ htc), costD_dp (e18 _ _ (E17 _ _ (E14 _ _ q3))), shaped_ints [((a0.1 : Nat) : Int), ((a0.2 : Nat) : Int)], shaped_ints [((a0.1 : Nat) : Int), ((a0.2 : Nat) : Int)], _, rfl, ?_⟩⟩
    rw [costD_eqv]
    exact iteF ⟨s10.ex ((E14.trans E17).trans e18), _, _, _, _, _, _, _, _, _, _, _, rfl⟩
end
end K21
end

/-! K21W26 -/
section
set_option Elab.async false
set_option linter.all false
set_option maxRecDepth 100000
set_option maxHeartbeats 4000000
/-! two stores of a line -/
namespace K21
open PySem PySem.Spec PyProof.Rows L2
open Evl (Ex ex_l ex_t)
section
variable {P : Program} {w : World} {K : PySem.W.Frag} {mg : Str → Option Value} {base : Heap} {C CL CS : Addr}
-- line_stores: 0:kept, 1:path, 2:signs, 3:line, 4:rooms, 5:kinds, 6:many, 7:digit, 8:place, 9:mark, 10:here, 11:lacks, 12:own, 13:links, 14:step, 15:there, 16:at, 17:x, 18:is_good, 19:far, 20:y, 21:is_right, 22:swaps, 23:letter  cells: mark
theorem sc_line_stores : FnScope ["kept", "path", "signs", "line", "rooms", "kinds", "many", "digit", "place", "mark", "here", "lacks", "own", "links", "step", "there", "at", "x", "is_good", "far", "y", "is_right", "swaps", "letter"] ["kept", "path"] (defScope s_line_stores) := ⟨rfl, rfl, rfl, by decide +kernel, rfl, by decide +kernel, by decide +kernel⟩
theorem ok_line_stores {f : Addr} {fd : FuncData} (F : FnP K "line_stores" "line_stores" s_line_stores f fd) (m : mg "line_stores" = some (.ref f)) (T : Fx K mg) (BL : ClL K CL) (C_Line : Mkc P w K mg base "Line" CL 6 ["self", "kept", "path"] (sp_Line_init K CL) []) (C_Store : Mkc P w K mg base "Store" CS 5 ["self", "manner", "many", "links", "kinds"] (sp_Store_init K CS) []) (C_marks : Cal P w K mg base "marks" 3 ["path"] (sp_marks K)) (C_steps : Cal P w K mg base "steps" 3 ["path"] (sp_steps K)) (C_exchanged : Cal P w K mg base "exchanged" 1 ["links", "swaps"] (sp_exchanged K)) : Cal P w K mg base "line_stores" 8 ["kept", "path"] (sp_line_stores K) := by
  refine ⟨f, fd, ?_, m, F.kp, F.bindsN fun _ _ _ _ _ _ us hl => match us, hl with | [_, _], _ => rfl⟩
  refine F.ok sc_line_stores (fun vs H Q E h => by obtain ⟨kl, p, ks, rfl, hp, hk, ko, hz, k⟩ := h; rfl) (fun cdv A outer s H vs Q E hr h => ?_)
  obtain ⟨kl, p, ks, rfl, hp, hk, ko, hz, k⟩ := h
  have nd := sc_line_stores.nd
  have hu := hu_of hr
  refine ⟨_, PSs.nox (pss_cons (ps_par (i := 2) (j := 3) (by rfl) nd rfl rfl (by decide) rfl rfl (pa_cons (pe_cal C_marks (hr.mono (by decide)) (by rfl) (pa_cons (pv 1) pa_nil)) (pa_cons (pe_mkc C_Line (hr.mono (by decide)) (by rfl) (pa_cons (pv 0) (pa_cons (pv 1) pa_nil))) pa_nil)) (by rfl)) -- signs, line = (marks(path), Line(kept, path))
      (pss_cons (ps_par3 (i := 4) (j := 5) (l := 6) (by rfl) nd rfl rfl rfl (by decide) (by decide) (by decide) rfl rfl rfl (pa_cons (pe_lst pa_nil) (pa_cons (pe_dc (own := [("digit", 7)]) (g := (gName 7)) (by rfl) nd (pi_str T.c_DIGITS) (blkOk_by (N := ["kept", "path", "signs", "line", "rooms", "kinds", "many", "digit", "place", "mark", "here", "lacks", "own", "links", "step", "there", "at", "x", "is_good", "far", "y", "is_right", "swaps", "letter"]) (sc := defScope s_line_stores) (own := [("digit", 7)]) (by decide +kernel)) (fun _ _ _ _ _ => (pg_name (i := 7) nd rfl (Or.inl rfl) (.inr rfl))) (fun _ _ _ _ _ => pts_nil) (fun _ _ _ _ _ => (pv 7)) (fun _ _ _ _ _ => (pe_lst pa_nil))) (pa_cons pe_int pa_nil))) (by rfl)) -- rooms, kinds, many = ([], {digit: [] for digit in DIGITS}, 0)
      (Evl.pss_cut (ps_for PassesOwn.never rfl (pi_enum (by rfl) T.n_enumerate (pa_cons (pv 2) pa_nil)) (pg_tup rfl (pgs_cons (pg_name (i := 8) nd rfl (Or.inl rfl)) (pgs_cons (pg_name (i := 9) nd rfl (Or.inr rfl)) pgs_nil)))
        (pss_cons (ps_set (i := 10) nd rfl (Or.inl rfl) (pe_lst (pa_cons (pe_tup (pa_cons pe_str (pa_cons (pv 9) pa_nil))) (pa_cons (pe_tup (pa_cons pe_str (pa_cons (pv 9) pa_nil))) pa_nil)))) -- here = [('', mark), ('', mark)]
        (Evl.pss_cut (ps_ifTok op_lt op_lt (pv 8) (pe_fld (pv 3) rfl) (pst_expr (pet_bm PySem.F.plainAttrs_list PySem.F.slot_list_extend PySem.F.type_list_extend mt_extend (pv 10) (pat_one (pet_rep (im := 9) (id := 7) (by rfl) nd (blkOk_by (N := ["kept", "path", "signs", "line", "rooms", "kinds", "many", "digit", "place", "mark", "here", "lacks", "own", "links", "step", "there", "at", "x", "is_good", "far", "y", "is_right", "swaps", "letter"]) (sc := defScope s_line_stores) (own := [("digit", 7)]) (by decide +kernel)) rfl rfl (by decide) (Or.inr (.inl rfl)) rfl (Or.inr (.inl rfl)) (by decide) (by decide) (by decide) (fun _ => rfl) (fun _ => rfl) (fun _ => rfl) rfl (by intro _; rfl)))))) -- if 0 < place < line.last:
        (pss_cons (ps_expr (pe_bm PySem.F.plainAttrs_list PySem.F.slot_list_append PySem.F.type_list_append mt_append (pv 4) (pa_cons (pe_lst pa_nil) pa_nil))) -- rooms.append([])
        (pss_one (ps_for PassesOwn.never rfl (pi_list (pv 10)) (pg_tup rfl (pgs_cons (pg_name (i := 11) nd rfl (Or.inl rfl)) (pgs_cons (pg_name (i := 12) nd rfl (Or.inl rfl)) pgs_nil)))
          (pss_cons (ps_expr (pe_bm PySem.F.plainAttrs_list PySem.F.slot_list_append PySem.F.type_list_append mt_append (pe_ix ix_list (pv 4) (pe_un un_neg pe_int) (fun _ _ => rfl)) (pa_cons (pe_tup (pa_cons (pv 6) (pa_cons (pe_cmpR op_eq (pv 11) pe_str (nomark _)) pa_nil))) pa_nil))) -- rooms[-1].append((many, lacks == ''))
          (pss_cons (ps_for PassesOwn.never rfl (pi_str (pv 12)) (pg_name (i := 7) nd rfl (Or.inl rfl))
            (pss_one (ps_expr (pe_bm PySem.F.plainAttrs_list PySem.F.slot_list_append PySem.F.type_list_append mt_append (pe_dget hu (pv 5) (pv 7) (fun _ _ => rfl)) (pa_cons (pv 6) pa_nil))))) -- for digit in own:
          (pss_one (ps_aug (i := 6) nd rfl (Or.inl rfl) pe_int ip_add)))))))))) -- for place, mark in enumerate(signs):
      (pss_cons (ps_setDc (i := 13) (own := [("letter", 23)]) (g := (gName 23)) (by rfl) nd rfl rfl (sw_dc rfl rfl rfl (by decide +kernel)) (pi_str T.c_SMALL) (blkOk_by (N := ["kept", "path", "signs", "line", "rooms", "kinds", "many", "digit", "place", "mark", "here", "lacks", "own", "links", "step", "there", "at", "x", "is_good", "far", "y", "is_right", "swaps", "letter"]) (sc := defScope s_line_stores) (own := [("letter", 23)]) (by decide +kernel)) (fun _ _ _ _ _ => (pg_name (i := 23) nd rfl (Or.inl rfl) (.inr rfl))) (fun _ _ _ _ _ => pts_nil) (fun _ _ _ _ _ => (pv 23)) (fun _ _ _ _ _ => (pe_lst pa_nil))) -- links = {letter: [] for letter in SMALL}
      (Evl.pss_cut (ps_for PassesOwn.never rfl (pi_zip3 (by rfl) T.n_zip (pa_cons (pe_cal C_steps (hr.mono (by decide)) (by rfl) (pa_cons (pv 1) pa_nil)) (pa_cons (pv 4) (pa_cons (pe_slice sl_list (pv 4) (po_some pe_int) po_none) pa_nil)))) (pg_tup rfl (pgs_cons (pg_name (i := 14) nd rfl (Or.inl rfl)) (pgs_cons (pg_name (i := 10) nd rfl (Or.inl rfl)) (pgs_cons (pg_name (i := 15) nd rfl (Or.inl rfl)) pgs_nil))))
        (pss_one (ps_for PassesOwn.never rfl (pi_enum (by rfl) T.n_enumerate (pa_cons (pv 10) pa_nil)) (pg_tup rfl (pgs_cons (pg_name (i := 16) nd rfl (Or.inl rfl)) (pgs_cons (pg_tup rfl (pgs_cons (pg_name (i := 17) nd rfl (Or.inl rfl)) (pgs_cons (pg_name (i := 18) nd rfl (Or.inl rfl)) pgs_nil))) pgs_nil)))
          (pss_one (ps_for PassesOwn.never rfl (pi_enum (by rfl) T.n_enumerate (pa_cons (pv 15) pa_nil)) (pg_tup rfl (pgs_cons (pg_name (i := 19) nd rfl (Or.inl rfl)) (pgs_cons (pg_tup rfl (pgs_cons (pg_name (i := 20) nd rfl (Or.inl rfl)) (pgs_cons (pg_name (i := 21) nd rfl (Or.inl rfl)) pgs_nil))) pgs_nil)))
            (pss_one (ps_if (PW.pt (pw_and (pt_mid (PW.pt (pw_or (pt_cmpR op_eq (pv 16) (pv 19) (nomark _)) (pw_or (pt_not (pt_val (pv 18))) (pw_or1 (pt_not (pt_val (pv 21)))))))) (pw_and1 (pt_cmpR (op_notInD (u65 hr)) (pe_tup (pa_cons (pv 17) (pa_cons (pv 20) pa_nil))) (pe_dget hu (pv 13) (pv 14) (fun _ _ => rfl)) (by rfl)))))
              (pss_one (ps_expr (pe_bm PySem.F.plainAttrs_list PySem.F.slot_list_append PySem.F.type_list_append mt_append (pe_dget hu (pv 13) (pv 14) (fun _ _ => rfl)) (pa_cons (pe_tup (pa_cons (pv 17) (pa_cons (pv 20) pa_nil))) pa_nil))))
              pss_nil))))))) -- for step, here, there in zip(steps(path), rooms, rooms[1:]):
      (pss_cons (ps_set (i := 22) nd rfl (Or.inl rfl) pe_dnewK) -- swaps = {}
      (Evl.pss_cut (ps_lock (ps_for PassesOwn.never rfl (pi_keys (pe_fld (pv 3) rfl)) (pg_name (i := 8) nd rfl (Or.inl rfl))
        (pss_cons (ps_dput hu (pv 22) (pe_ix ix_tup (pe_ix ix_list (pe_ix ix_list (pv 4) (pv 8) (fun _ _ => rfl)) pe_int (fun _ _ => rfl)) pe_int (fun _ _ => rfl)) (pe_ix ix_tup (pe_ix ix_list (pe_ix ix_list (pv 4) (pv 8) (fun _ _ => rfl)) pe_int (fun _ _ => rfl)) pe_int (fun _ _ => rfl)) rfl) -- swaps[rooms[place][0][0]] = rooms[place][1][0]
        (pss_one (ps_dput hu (pv 22) (pe_ix ix_tup (pe_ix ix_list (pe_ix ix_list (pv 4) (pv 8) (fun _ _ => rfl)) pe_int (fun _ _ => rfl)) pe_int (fun _ _ => rfl)) (pe_ix ix_tup (pe_ix ix_list (pe_ix ix_list (pv 4) (pv 8) (fun _ _ => rfl)) pe_int (fun _ _ => rfl)) pe_int (fun _ _ => rfl)) rfl))))) -- for place in line.costs:
      (pss_one (ps_ret (pe_tup (pa_cons pe_str (pa_cons (pe_mkc C_Store (hr.mono (by decide)) (by rfl) (pa_cons pe_str (pa_cons (pv 6) (pa_cons (pv 13) (pa_cons (pv 5) pa_nil))))) (pa_cons (pe_mkc C_Store (hr.mono (by decide)) (by rfl) (pa_cons pe_str (pa_cons (pv 6) (pa_cons (pe_cal C_exchanged (hr.mono (by decide)) (by rfl) (pa_cons (pv 13) (pa_cons (pv 22) pa_nil))) (pa_cons (pv 5) pa_nil))))) pa_nil))))))))))))), ?_⟩
  have l8 := hp.l8
  have lm := hp.len
  refine ⟨_, rfl, p, rfl, hp, fun sl H1 nsl e1 hsl => ⟨_, rfl, _, rfl, fun x dx nx ndx hne => ?_⟩⟩
  have e2 : Ex H1 (upd H1 dx (.own x)) := Ex.new ndx
  have nx1 : upd H1 dx (.own x) x = none := by rw [upd_ne hne.symm]; exact nx
  have e3 := ex_new (o := .ins CL dx []) e2 nx1
  refine ⟨x, kl, dx, H1, ks, p, rfl, upd_same, nx, e3, e3 _ _ (e1 _ _ hk), ko, hz, hp, fun H2 e4 hL => ⟨rfl, _, _, rfl, ?_⟩⟩
  have E2 := e1.trans e4
  have hsl2 := e4 _ _ hsl
  refine ⟨szk, fun rl nrl => ⟨digT, rfl, fun kd nkd => dc_empty (sl := 7) (by show 7 < 24; decide) (by decide +kernel) (by rw [dig_list]; decide) nkd fun H3 as e5 hkd hal han haa => ⟨_, _, _, rfl, ?_⟩⟩⟩
  have L3 : LS H2 H3 rl kd as [] (fun _ => []) := by
    refine ⟨(Ex.new nrl).trans e5, e5 _ _ upd_same, fun i a ha => (haa a (List.mem_of_getElem? ha)).1, hkd, fun _ h => (nomatch h), nrl, fun a ha => ?_, han, fun _ h => (nomatch h), List.nodup_nil⟩
    have q := (haa a ha).2
    have ne : a ≠ rl := fun e => by rw [e, upd_same] at q; cases q
    rw [upd_ne ne] at q
    exact ⟨q, ne⟩
  obtain ⟨blx, cdx, cmx, nx9, hLn, hoff⟩ := hL
  obtain ⟨dx2, kvs, kvs2, g1, g2, g3, _⟩ := hLn.ex
  have dnd : digT.cps.toList.Nodup := by rw [dig_list]; decide
  refine ⟨fun σ' H' => ∃ (rs : List (Addr × Nat × Nat)) (nss : Nat → List Nat) (many : Nat) (x7 x8 x9 x10 x11 x12 : Option V), LS H2 H' rl kd as rs nss ∧ PR rs many ∧ KC nss many ∧ rs.length = p.ms.length ∧ many ≤ 12 * p.ms.length ∧
    σ' = [some (.ref kl), some (.str p.txt), some (.ref sl), some (.ref x), some (.ref rl), some (.ref kd), some (.int (many : Nat)), x7, x8, x9, x10, x11, x12, none, none, none, none, none, none, none, none, none, none, none], ?_, ?_⟩
  · refine ⟨_, rfl, sl, _, rfl, .of (L3.e _ _ hsl2), ?_⟩
    refine for_it (walk_enum (xs := vmk p.ms)) (fun i σ' H' => ∃ (rs : List (Addr × Nat × Nat)) (nss : Nat → List Nat) (many : Nat) (x7 x8 x9 x10 x11 x12 : Option V), LS H2 H' rl kd as rs nss ∧ PR rs many ∧ KC nss many ∧ rs.length = i ∧ many ≤ 12 * i ∧
      σ' = [some (.ref kl), some (.str p.txt), some (.ref sl), some (.ref x), some (.ref rl), some (.ref kd), some (.int (many : Nat)), x7, x8, x9, x10, x11, x12, none, none, none, none, none, none, none, none, none, none, none])
      ⟨[], fun _ => [], 0, _, _, _, _, _, _, L3, ⟨fun _ h => (nomatch h), List.Pairwise.nil⟩, fun _ => ⟨List.nodup_nil, fun _ h => nomatch h⟩, rfl, Nat.le_refl _, rfl⟩ (fun i σ' H' _ pv => by obtain ⟨rs, nss, many, _, _, _, _, _, _, L, _⟩ := pv; exact .of (L.e _ _ hsl2)) ?_ ?_
    case refine_2 =>
      rintro σ' H' pv
      rw [vmk_len] at pv
      exact pv
    rintro i v σ' H0 H' hi ⟨rs, nss, many, x7, x8, x9, x10, x11, x12, L, hPR, hKC, hrl, hml, rfl⟩ ⟨t, a1, b1, rfl, nt, rfl, ha1, hb1⟩
    rw [vmk_len] at hi
    cases ha1
    have hb1 : (vmk p.ms)[i]? = some b1 := hb1
    rw [vmk, List.getElem?_map, List.getElem?_eq_getElem hi] at hb1
    cases hb1
    have hm : p.ms[i] ∈ p.ms := List.getElem_mem hi
    have mdg := hp.dg _ hm
    have mup := hp.up _ hm
    have m8 := hp.m8 _ hm
    generalize p.ms[i] = m at *
    have L := L.up (Ex.new (o := .tup [.int (i : Nat), .str (S m)]) nt)
    refine ⟨t, _, rfl, .of upd_same, rfl, _, _, rfl, _, _, rfl, rfl, ?_⟩
    generalize upd H0 t (.tup [.int (i : Nat), .str (S m)]) = H4 at L ⊢
    refine ⟨_, rfl, szk, fun ta nta => ⟨_, rfl, szk, fun tb ntb => ⟨szk, fun hl nhl => ?_⟩⟩⟩
    have ea := Ex.new (o := .tup [.str "", .str (S m)]) nta
    have eb := ex_new (o := .tup [.str "", .str (S m)]) ea ntb
    have L5 := L.up eb
    have hnew := L5.new nhl
    have L6 := L5.up (Ex.new (o := .lst [.ref ta, .ref tb]) nhl)
    have hhl : upd (upd (upd H4 ta (.tup [.str "", .str (S m)])) tb (.tup [.str "", .str (S m)])) hl (.lst [.ref ta, .ref tb]) hl = some (.lst [.ref ta, .ref tb]) := upd_same
    have hta := at_new (o := .lst [.ref ta, .ref tb]) (at_new (o := .tup [.str "", .str (S m)]) (upd_same (H := H4) (a := ta) (o := .tup [.str "", .str (S m)])) ntb) nhl
    have htb := at_new (o := .lst [.ref ta, .ref tb]) (upd_same (H := upd H4 ta (.tup [.str "", .str (S m)])) (a := tb) (o := .tup [.str "", .str (S m)])) nhl
    generalize upd (upd (upd H4 ta (.tup [.str "", .str (S m)])) tb (.tup [.str "", .str (S m)])) hl (.lst [.ref ta, .ref tb]) = H6 at L6 hhl hta htb ⊢
    have hI2 : HI H6 [.ref ta, .ref tb] m := fun j y hj => by
      match j, hj with
      | 0, hj => cases hj; exact ⟨ta, _, m, rfl, hta, List.Sublist.refl _⟩
      | 1, hj => cases hj; exact ⟨tb, _, m, rfl, htb, List.Sublist.refl _⟩
    refine ⟨fun σ' H' => ∃ (items : List V), LS H2 H' rl kd as rs nss ∧ H' hl = some (.lst items) ∧ 2 ≤ items.length ∧ items.length ≤ 12 ∧ HI H' items m ∧
      σ' = [some (.ref kl), some (.str p.txt), some (.ref sl), some (.ref x), some (.ref rl), some (.ref kd), some (.int (many : Nat)), x7, some (.int (i : Nat)), some (.str (S m)), some (.ref hl), x11, x12, none, none, none, none, none, none, none, none, none, none, none], ?_, ?_⟩
    · have plain : ∃ (items : List V), LS H2 H6 rl kd as rs nss ∧ H6 hl = some (.lst items) ∧ 2 ≤ items.length ∧ items.length ≤ 12 ∧ HI H6 items m ∧
        [some (.ref kl), some (.str p.txt), some (.ref sl), some (.ref x), some (.ref rl), some (.ref kd), some (.int (many : Nat)), x7, some (.int (i : Nat)), some (.str (S m)), some (.ref hl), x11, x12, none, none, none, none, none, none, none, none, none, none, none] = [some (.ref kl), some (.str p.txt), some (.ref sl), some (.ref x), some (.ref rl), some (.ref kd), some (.int (many : Nat)), x7, some (.int (i : Nat)), some (.str (S m)), some (.ref hl), x11, x12, none, none, none, none, none, none, none, none, none, none, none] :=
        ⟨_, L6, hhl, Nat.le_refl _, by simp, hI2, rfl⟩
      refine ⟨_, rfl, _, _, rfl, rfl, _, rfl, ite2 (fun _ => ⟨_, rfl, x, CL, dx2, _, _, rfl, L6.e _ _ g1, BL.cls, BL.n_last, rfl, _, _, rfl, rfl, _, rfl, ite2 (fun _ => ?_) (fun _ => plain)⟩) (fun _ => ⟨_, rfl, iteF plain⟩)⟩
      refine ⟨_, rfl, .inl ⟨rfl, _, .of hhl⟩, S m, rfl, ?_, by rw [S_len]; omega, fun D ys H7 e7 nD hD hT => ⟨hl, D, _, ys, rfl, rfl, e7 _ _ hhl, hD, ?_, ?_⟩⟩
      · rw [← Array.all_toList, S_cps]
        exact List.all_eq_true.mpr fun c hc => decide_eq_true (by have := mdg c hc; omega)
      · rw [hT.1, List.length_map, S_cps]
        exact sz3 (by show 2 + _ ≤ _; omega)
      · have h7 := e7 _ _ hhl
        have tk := tup_upd (o := .lst ([.ref ta, .ref tb] ++ ys)) h7 fun _ h => nomatch h
        refine ⟨_, (L6.up e7).away hnew h7, upd_same, by rw [List.length_append]; exact Nat.le_add_right 2 _, by rw [List.length_append, hT.1, List.length_map, S_cps]; show 2 + _ ≤ _; omega, fun j y hj => ?_, rfl⟩
        by_cases c : j < 2
        · rw [List.getElem?_append_left c] at hj
          exact ((hI2.mono (.of e7)).mono tk) j y hj
        · rw [List.getElem?_append_right (by show 2 ≤ j; omega)] at hj
          have hjm := (List.getElem?_eq_some_iff.mp hj).1
          rw [hT.1, List.length_map, S_cps] at hjm
          obtain ⟨t9, rfl, ht9⟩ := hT.2 _ y _ hj (by rw [List.getElem?_map, S_cps, List.getElem?_eq_getElem hjm]; rfl)
          obtain ⟨own, eo, so⟩ := repl_sub (m := m) (m[j - [V.ref ta, V.ref tb].length])
          exact ⟨t9, _, own, rfl, by rw [← eo]; exact tk _ _ ht9, so⟩
    · rintro σ' H7 ⟨items, L7, hh7, i2, i12, hI7, rfl⟩
      refine ⟨_, rfl, .inl ⟨rfl, _, .of L7.hr⟩, szk, fun q nq => ⟨rl, _, _, rfl, rfl, at_new L7.hr nq, by rw [List.length_map]; exact small_len (by omega), ?_⟩⟩
      have L8 := L7.room nq many
      have qhl : hl ≠ q := ne_of_none hh7 nq
      have hh8 := at_ne (o := .lst ((rs.map fun r => V.ref r.1) ++ [.ref q])) (at_new (o := .lst []) hh7 nq) hnew.2.1
      have tk8 : Tk H7 (upd (upd H7 q (.lst [])) rl (.lst ((rs.map fun r => V.ref r.1) ++ [.ref q]))) := (Tk.of (Ex.new nq)).trans (tup_upd (at_new L7.hr nq) fun _ h => nomatch h)
      have hI8 := hI7.mono tk8
      generalize upd (upd H7 q (.lst [])) rl (.lst ((rs.map fun r => V.ref r.1) ++ [.ref q])) = H8 at L8 hh8 hI8 ⊢
      refine ⟨_, rfl, hl, rfl, ⟨_, .of hh8⟩, ?_⟩
      refine for_it (walk_list (xs := items)) (fun k' σ' H' => ∃ (nss : Nat → List Nat) (x7 x11 x12 : Option V), LS H2 H' rl kd as (rs ++ [(q, many, k')]) nss ∧ KC nss (many + k') ∧ H' hl = some (.lst items) ∧ HI H' items m ∧
        σ' = [some (.ref kl), some (.str p.txt), some (.ref sl), some (.ref x), some (.ref rl), some (.ref kd), some (.int ((many + k' : Nat) : Int)), x7, some (.int (i : Nat)), some (.str (S m)), some (.ref hl), x11, x12, none, none, none, none, none, none, none, none, none, none, none])
        ⟨nss, _, _, _, L8, hKC, hh8, hI8, rfl⟩ (fun k' σ' H' _ pv => by obtain ⟨_, _, _, _, _, _, h, _⟩ := pv; exact .of h) ?_ ?_
      · rintro k' y σ' Ha H9 hk' ⟨nss, y7, y11, y12, L9, hKC9, hh9, hI9, rfl⟩ ⟨rfl, hy⟩
        obtain ⟨t9, lk, own, rfl, ht9, hsub⟩ := hI9 k' y hy
        refine ⟨t9, _, rfl, .of ht9, rfl, _, _, rfl, _, _, rfl, rfl, ?_⟩
        obtain ⟨ysq, hq9, hql, _⟩ := L9.rm (q, many, k') (List.mem_append_right _ List.mem_cons_self)
        have hq9 : H9 q = some (.lst ysq) := hq9
        have hql : ysq.length = k' := hql
        have hr9 := L9.hr
        rw [List.map_append] at hr9
        refine ⟨_, rfl, 1, rfl, _, _, _, .ref q, rfl, rfl, .of hr9, atI_last _ _, .inl ⟨rfl, _, .of hq9⟩, _, rfl, _, rfl, rfl, szk, fun tt ntt => ⟨q, ysq, _, rfl, rfl, at_new hq9 ntt, small_len (by omega), ?_⟩⟩
        have L10 := (L9.up (Ex.new (o := .tup [.int ((many + k' : Nat) : Int), .bl (decide (V.str lk = V.str ""))]) ntt)).item (at_new hq9 ntt) upd_same
        have tkq := tup_upd (o := .lst (ysq ++ [.ref tt])) (at_new (o := .tup [.int ((many + k' : Nat) : Int), .bl (decide (V.str lk = V.str ""))]) hq9 ntt) fun _ h => nomatch h
        have hh10 := at_ne (o := .lst (ysq ++ [.ref tt])) (at_new (o := .tup [.int ((many + k' : Nat) : Int), .bl (decide (V.str lk = V.str ""))]) hh9 ntt) qhl
        have hI10 := hI9.mono ((Tk.of (Ex.new (o := .tup [.int ((many + k' : Nat) : Int), .bl (decide (V.str lk = V.str ""))]) ntt)).trans tkq)
        generalize upd (upd H9 tt (.tup [.int ((many + k' : Nat) : Int), .bl (decide (V.str lk = V.str ""))])) q (.lst (ysq ++ [.ref tt])) = H10 at L10 hh10 hI10 ⊢
        refine ⟨_, rfl, S own, rfl, ?_⟩
        have ownl := hsub.length_le
        have ownu : own.Nodup := (mup.imp fun {a b} h => Nat.ne_of_lt h).sublist hsub
        refine for_it walk_str (fun j σ' H' => ∃ (nss : Nat → List Nat) (x7 : Option V), LS H2 H' rl kd as (rs ++ [(q, many, k' + 1)]) nss ∧ KJ nss (many + k') (own.take j) ∧ H' hl = some (.lst items) ∧ HI H' items m ∧
          σ' = [some (.ref kl), some (.str p.txt), some (.ref sl), some (.ref x), some (.ref rl), some (.ref kd), some (.int ((many + k' : Nat) : Int)), x7, some (.int (i : Nat)), some (.str (S m)), some (.ref hl), some (.str lk), some (.str (S own)), none, none, none, none, none, none, none, none, none, none, none])
          ⟨nss, _, L10, fun i => ⟨(hKC9 i).1, fun v hv => Nat.lt_succ_of_lt ((hKC9 i).2 v hv), fun hv => absurd ((hKC9 i).2 _ hv) (Nat.lt_irrefl _)⟩, hh10, hI10, rfl⟩ (fun _ _ _ _ _ => trivial) ?_ ?_
        · rintro j v σ' Hb H11 hj ⟨nss, z7, L11, hKJ, hh11, hI11, rfl⟩ ⟨rfl, c, hc, rfl⟩
          rw [S_get] at hc
          have hcm : c ∈ m := hsub.subset (List.mem_of_getElem? hc)
          have hcd : c ∈ digT.cps.toList := of_decide_eq_true (by rw [in_dig]; exact decide_eq_true (mdg c hcm))
          obtain ⟨i0, hi0, ei0⟩ := List.getElem_of_mem hcd
          have hic : digT.cps.toList[i0]? = some c := by rw [List.getElem?_eq_getElem hi0, ei0]
          have hia : as[i0]? = some as[i0] := List.getElem?_eq_getElem (by omega)
          generalize as[i0] = ad at hia
          have hget : DGet H11 kd (.str ⟨#[c]⟩) (some (.ref ad)) := by
            rw [← dcl_val hal.symm dnd hic hia]
            exact .k (k := .inr ⟨#[c]⟩) L11.hd
          have hla := L11.hk i0 ad hia
          obtain ⟨n1, n2, n3⟩ := hKJ i0
          have nl : (nss i0).length ≤ many + k' + 1 := Bf.nodup_len _ n1 n2
          refine ⟨_, rfl, _, rfl, kd, _, rfl, hget, .inl ⟨rfl, _, .of hla⟩, _, rfl, ad, _, _, rfl, rfl, hla, by rw [vnt_len]; exact small_len (by omega), ?_⟩
          have tka := tup_upd (o := .lst (vnt (nss i0) ++ [.int ((many + k' : Nat) : Int)])) hla fun _ h => nomatch h
          have hlad : hl ≠ ad := fun e => hnew.2.2.1 (by rw [e]; exact List.mem_of_getElem? hia)
          refine ⟨_, _, L11.kind hia, fun i1 => ?_, at_ne hh11 hlad, hI11.mono tka, rfl⟩
          show (if i1 = i0 then nss i0 ++ [many + k'] else nss i1).Nodup ∧ (∀ v ∈ (if i1 = i0 then nss i0 ++ [many + k'] else nss i1), v < many + k' + 1) ∧ (many + k' ∈ (if i1 = i0 then nss i0 ++ [many + k'] else nss i1) → ∃ c' ∈ own.take (j + 1), digT.cps.toList[i1]? = some c')
          rw [List.take_add_one, hc]
          by_cases e : i1 = i0
          · subst e
            rw [if_pos rfl]
            refine ⟨?_, fun v hv => ?_, fun _ => ⟨c, by simp, hic⟩⟩
            · rw [List.nodup_append]
              refine ⟨n1, by simp, fun u hu v hv q' => ?_⟩
              rw [List.mem_singleton.mp hv] at q'
              rw [q'] at hu
              obtain ⟨c', hc', e'⟩ := n3 hu
              rw [hic] at e'
              cases e'
              have hj' : j < own.length := (List.getElem?_eq_some_iff.mp hc).1
              have := nd_at ownu hj'
              rw [(List.getElem?_eq_some_iff.mp hc).2] at this
              exact this hc'
            · rcases List.mem_append.mp hv with h | h
              · exact n2 v h
              · rw [List.mem_singleton.mp h]
                exact Nat.lt_succ_self _
          · rw [if_neg e]
            obtain ⟨a, b, d⟩ := hKJ i1
            exact ⟨a, b, fun h => by obtain ⟨c', h1, h2⟩ := d h; exact ⟨c', List.mem_append_left _ h1, h2⟩⟩
        · rintro σ' H12 ⟨nss, z7, L12, hKJ, hh12, hI12, rfl⟩
          exact ⟨_, rfl, _, _, rfl, rfl, nss, _, _, _, L12, fun i => ⟨(hKJ i).1, (hKJ i).2.1⟩, hh12, hI12, rfl⟩
      · rintro σ' H9 ⟨nss, y7, y11, y12, L9, hKC9, hh9, hI9, rfl⟩
        exact ⟨_, nss, _, _, _, _, _, _, _, L9, hPR.snoc i2 i12, hKC9, by rw [List.length_append, hrl]; rfl, by omega, rfl⟩
  · rintro σ' HB ⟨rs, nss, many, w7, w8, w9, w10, w11, w12, L, hPR, hKC, hrl, hml, rfl⟩
    have snd : smallT.cps.toList.Nodup := by rw [small_list]; decide
    have m108 : many ≤ 108 := by omega
    refine ⟨smallT, rfl, fun ld nld => dc_empty (sl := 23) (by show 23 < 24; decide) (by decide +kernel) snd nld fun H4 bs e6 hld hbl hbn hba => ?_⟩
    have K4 : LK2 HB H4 ld bs many 0 := ⟨e6, hld, fun i b hb => ⟨[], [], (hba b (List.mem_of_getElem? hb)).1, Tups.nil, List.nodup_nil, Nat.le_refl _, fun _ h => (nomatch h)⟩, fun b hb => (hba b hb).2, hbn⟩
    refine ⟨fun σ' H' => LK2 HB H' ld bs many 1152 ∧ ∃ x7 x8 x9 x10 x11 x12 x14 x15 x16 x17 x18 x19 x20 x21 : Option V, σ' = [some (.ref kl), some (.str p.txt), some (.ref sl), some (.ref x), some (.ref rl), some (.ref kd), some (.int (many : Nat)), x7, x8, x9, x10, x11, x12, some (.ref ld), x14, x15, x16, x17, x18, x19, x20, x21, none, none], ?_, ?_⟩
    · have hr4 := e6 _ _ L.hr
      refine ⟨_, rfl, p, rfl, hp, fun stl H5 nst e7 hst => ⟨_, rfl, _, rfl, _, rfl, rl, _, rfl, .of (e7 _ _ hr4), fun r2 nr2 => ⟨stl, rl, r2, vst p.ls, rs.map fun r => V.ref r.1, (rs.drop 1).map fun r => V.ref r.1, rfl, .of (at_new hst nr2), .of (at_new (e7 _ _ hr4) nr2), .of ?_, ?_⟩⟩⟩
      · rw [upd_same, cutV_map, cutL_from1]
      have hr2 : upd H5 r2 (.lst (cutV (rs.map fun r => V.ref r.1) (some 1) none)) r2 = some (.lst ((rs.drop 1).map fun r => V.ref r.1)) := by rw [upd_same, cutV_map, cutL_from1]
      have K6 := (K4.up e7).up (Ex.new (o := .lst (cutV (rs.map fun r => V.ref r.1) (some 1) none)) nr2)
      have hst6 := at_new (o := .lst (cutV (rs.map fun r => V.ref r.1) (some 1) none)) hst nr2
      have stb : stl ∉ bs := fun m => by
        have := (hba stl m).1
        rw [nst] at this
        cases this
      have r2b : r2 ∉ bs := fun m => by
        have := e7 _ _ (hba r2 m).1
        rw [nr2] at this
        cases this
      generalize upd H5 r2 (.lst (cutV (rs.map fun r => V.ref r.1) (some 1) none)) = H6 at hr2 K6 hst6 ⊢
      refine for_it (walk_zip3 (n := p.ls.length) (xs := vst p.ls) (ys := rs.map fun r => V.ref r.1) (zs := (rs.drop 1).map fun r => V.ref r.1) (by rw [vst_len, List.length_map, List.length_map, List.length_drop, hrl]; omega)) (fun i σ' H' => LK2 HB H' ld bs many (144 * i) ∧ H' stl = some (.lst (vst p.ls)) ∧ H' r2 = some (.lst ((rs.drop 1).map fun r => V.ref r.1)) ∧ ∃ x7 x8 x9 x10 x11 x12 x14 x15 x16 x17 x18 x19 x20 x21 : Option V, σ' = [some (.ref kl), some (.str p.txt), some (.ref sl), some (.ref x), some (.ref rl), some (.ref kd), some (.int (many : Nat)), x7, x8, x9, x10, x11, x12, some (.ref ld), x14, x15, x16, x17, x18, x19, x20, x21, none, none])
        ⟨K6, hst6, hr2, _, _, _, _, _, _, _, _, _, _, _, _, _, _, rfl⟩ (fun i σ' H' _ pv => ⟨.of pv.2.1, .of (pv.1.e _ _ L.hr), .of pv.2.2.1⟩) ?_ ?_
      case refine_2 =>
        rintro σ' H' ⟨K7, _, _, hσ⟩
        exact ⟨K7.le (by omega), hσ⟩
      rintro i v σ' H0 H' hi ⟨K7, hst7, hr7, x7, x8, x9, x10, x11, x12, x14, x15, x16, x17, x18, x19, x20, x21, rfl⟩ ⟨T, x1, y1, z1, rfl, nT, rfl, hx1, hy1, hz1⟩
      have hil : i < p.ls.length := hi
      have hir : i < rs.length := by omega
      have hir2 : i + 1 < rs.length := by omega
      rw [vst, List.getElem?_map, List.getElem?_eq_getElem hil] at hx1
      rw [List.getElem?_map, List.getElem?_eq_getElem hir] at hy1
      rw [List.getElem?_map, List.getElem?_drop, Nat.add_comm 1 i, List.getElem?_eq_getElem hir2] at hz1
      cases hx1
      cases hy1
      cases hz1
      have hcs := hp.sm _ (List.getElem_mem hil)
      have hA0 := L.rm _ (List.getElem_mem hir)
      have hB0 := L.rm _ (List.getElem_mem hir2)
      obtain ⟨a2, a12, aM⟩ := hPR.1 _ (List.getElem_mem hir)
      obtain ⟨b2, b12, bM⟩ := hPR.1 _ (List.getElem_mem hir2)
      generalize p.ls[i] = c at *
      generalize rs[i] = ra at *
      generalize rs[i + 1] = rb at *
      have hcd : c ∈ smallT.cps.toList := of_decide_eq_true (in_small hcs)
      obtain ⟨i0, hi0, ei0⟩ := List.getElem_of_mem hcd
      have hic : smallT.cps.toList[i0]? = some c := by rw [List.getElem?_eq_getElem hi0, ei0]
      have hib : bs[i0]? = some bs[i0] := List.getElem?_eq_getElem (by omega)
      generalize bs[i0] = b0 at hib
      have hget : ∀ {H'}, LK2 HB H' ld bs many (144 * i) ∨ True → ∀ {cnt}, LK2 HB H' ld bs many cnt → DGet H' ld (.str ⟨#[c]⟩) (some (.ref b0)) := fun {H'} _ {cnt} KK => by
        rw [← dcl_val hbl.symm snd hic hib]
        exact .k (k := .inr ⟨#[c]⟩) KK.d
      have K8 := K7.up (Ex.new (o := .tup [sg c, .ref ra.1, .ref rb.1]) nT)
      have hst8 := at_new (o := .tup [sg c, .ref ra.1, .ref rb.1]) hst7 nT
      have hr8 := at_new (o := .tup [sg c, .ref ra.1, .ref rb.1]) hr7 nT
      refine ⟨T, _, rfl, .of upd_same, rfl, _, _, rfl, _, _, rfl, _, _, rfl, rfl, ?_⟩
      generalize upd H0 T (.tup [sg c, .ref ra.1, .ref rb.1]) = H8 at K8 hst8 hr8 ⊢
      obtain ⟨ysA, hA1, hA2, hA3⟩ := hA0
      obtain ⟨ysB, hB1, hB2, hB3⟩ := hB0
      refine ⟨_, rfl, ra.1, _, rfl, .of (K8.e _ _ hA1), ?_⟩
      refine for_it (walk_enum (xs := ysA)) (fun k' σ' H' => LK2 HB H' ld bs many (144 * i + 12 * k') ∧ H' stl = some (.lst (vst p.ls)) ∧ H' r2 = some (.lst ((rs.drop 1).map fun r => V.ref r.1)) ∧ ∃ x7 x8 x9 x11 x12 x16 x17 x18 x19 x20 x21 : Option V, σ' = [some (.ref kl), some (.str p.txt), some (.ref sl), some (.ref x), some (.ref rl), some (.ref kd), some (.int (many : Nat)), x7, x8, x9, some (.ref ra.1), x11, x12, some (.ref ld), some (sg c), some (.ref rb.1), x16, x17, x18, x19, x20, x21, none, none])
        ⟨K8, hst8, hr8, _, _, _, _, _, _, _, _, _, _, _, rfl⟩ (fun k' σ' H' _ pv => .of (pv.1.e _ _ hA1)) ?_ ?_
      case refine_2 =>
        rintro σ' H' ⟨K9, h1, h2, x7, x8, x9, x11, x12, x16, x17, x18, x19, x20, x21, rfl⟩
        exact ⟨K9.le (by rw [hA2]; omega), h1, h2, _, _, _, _, _, _, _, _, _, _, _, _, _, _, rfl⟩
      rintro k' v σ' H0 H' hk' ⟨K9, hst9, hr9, x7, x8, x9, x11, x12, x16, x17, x18, x19, x20, x21, rfl⟩ ⟨T2, u1, u2, rfl, nT2, rfl, hu1, hu2⟩
      cases hu1
      obtain ⟨t1, g1b, rfl, ht1⟩ := hA3 k' u2 hu2
      have K10 := K9.up (Ex.new (o := .tup [.int (k' : Nat), .ref t1]) nT2)
      have hst10 := at_new (o := .tup [.int (k' : Nat), .ref t1]) hst9 nT2
      have hr10 := at_new (o := .tup [.int (k' : Nat), .ref t1]) hr9 nT2
      refine ⟨T2, _, rfl, .of upd_same, rfl, _, _, rfl, _, _, rfl, t1, _, rfl, .of (K10.e _ _ ht1), rfl, _, _, rfl, _, _, rfl, rfl, rfl, ?_⟩
      generalize upd H0 T2 (.tup [.int (k' : Nat), .ref t1]) = H10 at K10 hst10 hr10 ⊢
      refine ⟨_, rfl, rb.1, _, rfl, .of (K10.e _ _ hB1), ?_⟩
      refine for_it (walk_enum (xs := ysB)) (fun k2 σ' H' => LK2 HB H' ld bs many (144 * i + 12 * k' + k2) ∧ H' stl = some (.lst (vst p.ls)) ∧ H' r2 = some (.lst ((rs.drop 1).map fun r => V.ref r.1)) ∧ ∃ x7 x8 x9 x11 x12 x19 x20 x21 : Option V, σ' = [some (.ref kl), some (.str p.txt), some (.ref sl), some (.ref x), some (.ref rl), some (.ref kd), some (.int (many : Nat)), x7, x8, x9, some (.ref ra.1), x11, x12, some (.ref ld), some (sg c), some (.ref rb.1), some (.int (k' : Nat)), some (.int ((ra.2.1 + k' : Nat) : Int)), some (.bl g1b), x19, x20, x21, none, none])
        ⟨K10, hst10, hr10, _, _, _, _, _, _, _, _, rfl⟩ (fun k2 σ' H' _ pv => .of (pv.1.e _ _ hB1)) ?_ ?_
      case refine_2 =>
        rintro σ' H' ⟨K11, h1, h2, x7, x8, x9, x11, x12, x19, x20, x21, rfl⟩
        exact ⟨K11.le (by rw [hB2]; omega), h1, h2, _, _, _, _, _, _, _, _, _, _, _, rfl⟩
      rintro k2 v σ' H0 H' hk2 ⟨K11, hst11, hr11, x7, x8, x9, x11, x12, x19, x20, x21, rfl⟩ ⟨T3, u1, u2, rfl, nT3, rfl, hu1, hu2⟩
      cases hu1
      obtain ⟨t2, g2b, rfl, ht2⟩ := hB3 k2 u2 hu2
      have K12 := K11.up (Ex.new (o := .tup [.int (k2 : Nat), .ref t2]) nT3)
      have hst12 := at_new (o := .tup [.int (k2 : Nat), .ref t2]) hst11 nT3
      have hr12 := at_new (o := .tup [.int (k2 : Nat), .ref t2]) hr11 nT3
      refine ⟨T3, _, rfl, .of upd_same, rfl, _, _, rfl, _, _, rfl, t2, _, rfl, .of (K12.e _ _ ht2), rfl, _, _, rfl, _, _, rfl, rfl, rfl, ?_⟩
      generalize upd H0 T3 (.tup [.int (k2 : Nat), .ref t2]) = H12 at K12 hst12 hr12 ⊢
      have kA : k' < ra.2.2 := by rw [← hA2]; exact hk'
      have kB : k2 < rb.2.2 := by rw [← hB2]; exact hk2
      refine ⟨fun b H1 => H1 = H12, ⟨_, rfl, _, rfl, rfl, _, rfl, ite2 (fun _ => rfl) fun _ => ⟨_, rfl, _, rfl, ite2 (fun _ => rfl) fun _ => ⟨_, rfl, _, rfl, rfl⟩⟩⟩, ?_⟩
      rintro bb H1 rfl
      cases bb with
      | false => exact iteF (iteF ⟨K12.le (by omega), hst12, hr12, _, _, _, _, _, _, _, _, rfl⟩)
      | true =>
        refine iteT ⟨_, rfl, _, rfl, szk, fun tt ntt => ?_⟩
        have K13 := K12.up (Ex.new (o := .tup [.int ((ra.2.1 + k' : Nat) : Int), .int ((rb.2.1 + k2 : Nat) : Int)]) ntt)
        have hst13 := at_new (o := .tup [.int ((ra.2.1 + k' : Nat) : Int), .int ((rb.2.1 + k2 : Nat) : Int)]) hst12 ntt
        have hr13 := at_new (o := .tup [.int ((ra.2.1 + k' : Nat) : Int), .int ((rb.2.1 + k2 : Nat) : Int)]) hr12 ntt
        have htt : upd H1 tt (.tup [.int ((ra.2.1 + k' : Nat) : Int), .int ((rb.2.1 + k2 : Nat) : Int)]) tt = some (.tup [.int ((ra.2.1 + k' : Nat) : Int), .int ((rb.2.1 + k2 : Nat) : Int)]) := upd_same
        generalize upd H1 tt (.tup [.int ((ra.2.1 + k' : Nat) : Int), .int ((rb.2.1 + k2 : Nat) : Int)]) = H13 at K13 hst13 hr13 htt ⊢
        obtain ⟨ysL, ps, hb1, hb2, hb3, hb4, hb5⟩ := K13.l i0 b0 hib
        refine ⟨_, rfl, _, rfl, ld, _, rfl, hget (.inr trivial) K13, prD2 (ra.2.1 + k', rb.2.1 + k2), ps.map prD2, dpT (l := [((ra.2.1 + k' : Nat) : Int), ((rb.2.1 + k2 : Nat) : Int)]) (.of htt), .lst (.of hb1) (dpAll_pairs hb2), shaped_ints [((ra.2.1 + k' : Nat) : Int), ((rb.2.1 + k2 : Nat) : Int)], shaped_pairs ps, _, rfl, ?_⟩
        rw [prD2_any]
        by_cases hq : (ra.2.1 + k', rb.2.1 + k2) ∈ ps
        · rw [decide_eq_true hq]
          exact iteF ⟨K13.le (by omega), hst13, hr13, _, _, _, _, _, _, _, _, rfl⟩
        · rw [decide_eq_false hq]
          have hyl := hb2.1
          rw [List.length_map] at hyl
          refine iteT ⟨_, rfl, _, rfl, ld, _, rfl, hget (.inr trivial) K13, .inl ⟨rfl, _, .of hb1⟩, _, rfl, _, rfl, szk, fun t5 nt5 => ⟨b0, ysL, _, rfl, rfl, at_new hb1 nt5, small_len (by omega), ?_⟩⟩
          have K14 := (K13.up (Ex.new (o := .tup (prI (ra.2.1 + k', rb.2.1 + k2))) nt5)).add hib (at_new hb1 nt5) (hb2.ex (Ex.new nt5)) hb3 hb4 hb5 hq ⟨by show ra.2.1 + k' < many; omega, by show rb.2.1 + k2 < many; omega⟩ upd_same
          have b0m := List.mem_of_getElem? hib
          exact ⟨K14, at_ne (at_new hst13 nt5) (fun e => stb (by rw [e]; exact b0m)), at_ne (at_new hr13 nt5) (fun e => r2b (by rw [e]; exact b0m)), _, _, _, _, _, _, _, _, rfl⟩
    · rintro σ' HC ⟨KK, x7, x8, x9, x10, x11, x12, x14, x15, x16, x17, x18, x19, x20, x21, rfl⟩
      refine fun sd nsd => ?_
      have hcdC := KK.e _ _ (L.e _ _ g2)
      have hxC := KK.e _ _ (L.e _ _ g1)
      have hrC := KK.e _ _ L.hr
      have sdc : sd ≠ cdx := fun e => by rw [e, hcdC] at nsd; cases nsd
      have xcd : x ≠ cdx := fun e => by rw [e, hcdC] at hxC; cases hxC
      refine ⟨fun σ' H' => ∃ (x7 x8 x9 x10 x11 x12 x14 x15 x16 x17 x18 x19 x20 x21 : Option V) (sk : List (Key × V)) (src : Nat → Prop), σ' = [some (.ref kl), some (.str p.txt), some (.ref sl), some (.ref x), some (.ref rl), some (.ref kd), some (.int (many : Nat)), x7, x8, x9, x10, x11, x12, some (.ref ld), x14, x15, x16, x17, x18, x19, x20, x21, some (.ref sd), none] ∧ Ex HC H' ∧ H' sd = some (.dK sk) ∧ SW sk many src, ?_, ?_⟩
      · refine ⟨cdx, _, at_new hcdC nsd, trivial, fun od => ⟨_, rfl, x, CL, dx2, _, _, rfl, at_ne (at_new hxC nsd) xcd, BL.cls, BL.n_costs, rfl, cdx, od, rfl, .inl ⟨kvs, upd_same, ?_⟩⟩⟩
        have EL := lock_on (d := cdx) (f := .frz od (.dK kvs)) (Ex.new (o := .dK []) nsd)
        have sdL : upd HC cdx (.frz od (.dK kvs)) sd = none := by rw [upd_ne sdc]; exact nsd
        have cdL : upd HC cdx (.frz od (.dK kvs)) cdx = some (.frz od (.dK kvs)) := upd_same
        have tkL := tup_upd (o := .frz od (.dK kvs)) hcdC fun _ h => nomatch h
        have lsL := lst_upd (o := .frz od (.dK kvs)) hcdC fun _ h => nomatch h
        have gl := g3.len
        refine for_it walk_keys (fun i σ' H' => Ex (upd HC cdx (.frz od (.dK kvs))) H' ∧ (∃ x7 x8 x9 x10 x11 x12 x14 x15 x16 x17 x18 x19 x20 x21 : Option V, σ' = [some (.ref kl), some (.str p.txt), some (.ref sl), some (.ref x), some (.ref rl), some (.ref kd), some (.int (many : Nat)), x7, x8, x9, x10, x11, x12, some (.ref ld), x14, x15, x16, x17, x18, x19, x20, x21, some (.ref sd), none]) ∧ ∃ sk : List (Key × V), H' sd = some (.dK sk) ∧ sk.length ≤ 2 * i ∧
            SW sk many (fun v => ∃ (j pl : Nat) (r : Addr × Nat × Nat), j < i ∧ (kvs.map (·.1))[j]? = some (.inl (pl : Int)) ∧ rs[pl]? = some r ∧ (v = r.2.1 ∨ v = r.2.1 + 1)))
          ⟨EL, ⟨_, _, _, _, _, _, _, _, _, _, _, _, _, _, rfl⟩, [], at_ne upd_same sdc, Nat.le_refl _, ⟨fun _ _ h => (nomatch h), fun _ h => absurd rfl h⟩⟩ (fun i σ' H' _ pv => pv.1 _ _ cdL) ?_ ?_
        · rintro i v σ' H0 H' hi ⟨E, ⟨x7, x8, x9, x10, x11, x12, x14, x15, x16, x17, x18, x19, x20, x21, rfl⟩, sk, hsk, hsl9, hSW⟩ ⟨rfl, kk, v', hkey, rfl⟩
          have hkm : (kvs.map (·.1))[i]? = some kk := by rw [List.getElem?_map, hkey]; rfl
          obtain ⟨pl, rfl, hpl⟩ := g3.key kk (List.mem_of_getElem? hkm)
          have hpr : pl < rs.length := by omega
          have hrg : rs[pl]? = some rs[pl] := List.getElem?_eq_getElem hpr
          have hR0 := L.rm _ (List.getElem_mem hpr)
          obtain ⟨r2', r12, rM⟩ := hPR.1 _ (List.getElem_mem hpr)
          have src0 : ∀ v, (∃ (j pl' : Nat) (r : Addr × Nat × Nat), j < i ∧ (kvs.map (·.1))[j]? = some (.inl (pl' : Int)) ∧ rs[pl']? = some r ∧ (v = r.2.1 ∨ v = r.2.1 + 1)) → v ≠ rs[pl].2.1 ∧ v ≠ rs[pl].2.1 + 1 := by
            rintro v ⟨j, pl', r', hj, hjk, hr', hv⟩
            obtain ⟨hpr', er'⟩ := List.getElem?_eq_some_iff.mp hr'
            have hne : pl' ≠ pl := fun e => by
              rw [e] at hjk
              have := ix_inj g3.nd hjk hkm
              omega
            obtain ⟨s2', _, _⟩ := hPR.1 r' (List.mem_of_getElem? hr')
            have pw := List.pairwise_iff_getElem.mp hPR.2
            rcases Nat.lt_or_gt_of_ne hne with lt | gt
            · have := pw pl' pl hpr' hpr lt
              rw [er'] at this
              omega
            · have := pw pl pl' hpr hpr' gt
              rw [er'] at this
              omega
          generalize rs[pl] = r at hrg hR0 r2' r12 rM src0
          obtain ⟨ys, hy1, hy2, hy3⟩ := hR0
          have hyH := E _ _ (lsL _ _ (KK.e _ _ hy1))
          have hrH := E _ _ (lsL _ _ hrC)
          have y0 : ys[0]? = some (ys[0]'(by omega)) := List.getElem?_eq_getElem _
          have y1 : ys[1]? = some (ys[1]'(by omega)) := List.getElem?_eq_getElem _
          obtain ⟨t0, bb0, e0, ht0⟩ := hy3 0 _ y0
          obtain ⟨t1, bb1, e1', ht1⟩ := hy3 1 _ y1
          rw [e0] at y0
          rw [e1'] at y1
          have ht0H := E _ _ (tkL _ _ (KK.e _ _ ht0))
          have ht1H := E _ _ (tkL _ _ (KK.e _ _ ht1))
          have hix : atI (rs.map fun r => V.ref r.1) ((pl : Nat) : Int) = some (.ref r.1) := atI_nat (by rw [List.getElem?_map, hrg]; rfl)
          have sdH : ∀ {o}, upd H' sd o r.1 = some (.lst ys) := fun {o} => at_ne hyH fun e => by rw [e, hsk] at hyH; cases hyH
          have rlH : ∀ {o}, upd H' sd o rl = some (.lst (rs.map fun r => V.ref r.1)) := fun {o} => at_ne hrH fun e => by rw [e, hsk] at hrH; cases hrH
          have tkS : ∀ {o}, Tk H' (upd H' sd o) := fun {o} => tup_upd hsk fun _ h => nomatch h
          refine ⟨_, rfl, _, rfl, _, _, _, .ref r.1, rfl, rfl, .of hrH, hix, _, _, 1, .ref t1, rfl, rfl, .of hyH, atI_nat (j := 1) y1, _, _, 0, _, rfl, rfl, .of ht1H, rfl, _, rfl,
            _, rfl, _, rfl, _, _, _, .ref r.1, rfl, rfl, .of hrH, hix, _, _, 0, .ref t0, rfl, rfl, .of hyH, atI_nat (j := 0) y0, _, _, 0, _, rfl, rfl, .of ht0H, rfl, sd, _, rfl, .k (k := .inl ((r.2.1 : Nat) : Int)) hsk (small_len (by omega)), ?_⟩
          refine ⟨_, rfl, _, rfl, _, _, _, .ref r.1, rfl, rfl, .of rlH, hix, _, _, 0, .ref t0, rfl, rfl, .of sdH, atI_nat (j := 0) y0, _, _, 0, _, rfl, rfl, .of (tkS _ _ ht0H), rfl, _, rfl,
            _, rfl, _, rfl, _, _, _, .ref r.1, rfl, rfl, .of rlH, hix, _, _, 1, .ref t1, rfl, rfl, .of sdH, atI_nat (j := 1) y1, _, _, 0, _, rfl, rfl, .of (tkS _ _ ht1H), rfl, sd, _, rfl, .k (k := .inl ((r.2.1 + 1 : Nat) : Int)) upd_same (small_len (Nat.lt_of_le_of_lt (length_putK _ _ _) (by omega))), ?_⟩
          refine ⟨ex_upd (ex_upd E sdL) sdL, ⟨_, _, _, _, _, _, _, _, _, _, _, _, _, _, rfl⟩, _, upd_same, ?_, ?_⟩
          · have q1 := length_putK (putK sk (.inl ((r.2.1 : Nat) : Int)) (.int ((r.2.1 + 1 : Nat) : Int))) (.inl ((r.2.1 + 1 : Nat) : Int)) (.int ((r.2.1 : Nat) : Int))
            have q2 := length_putK sk (.inl ((r.2.1 : Nat) : Int)) (.int ((r.2.1 + 1 : Nat) : Int))
            exact Nat.le_trans q1 (by omega)
          · exact hSW.two (a := r.2.1) (b := r.2.1 + 1) (by omega) (by omega) (by omega) (fun h => (src0 _ h).1 rfl) (fun h => (src0 _ h).2 rfl) (fun v ⟨j, pl', r', hj, h1, h2, h3⟩ => ⟨j, pl', r', by omega, h1, h2, h3⟩)
              ⟨i, pl, r, Nat.lt_succ_self _, hkm, hrg, .inl rfl⟩ ⟨i, pl, r, Nat.lt_succ_self _, hkm, hrg, .inr rfl⟩
        · rintro σ' H' ⟨E, ⟨x7, x8, x9, x10, x11, x12, x14, x15, x16, x17, x18, x19, x20, x21, rfl⟩, sk, hsk, _, hSW⟩
          exact ⟨E _ _ cdL, _, _, _, _, _, _, _, _, _, _, _, _, _, _, sk, _, rfl, lock_off hcdC E, at_ne hsk sdc, hSW⟩
      · rintro σ' HE ⟨x7, x8, x9, x10, x11, x12, x14, x15, x16, x17, x18, x19, x20, x21, sk, src, rfl, EE, hsd, hSW⟩
        obtain ⟨s, hSwAt⟩ := hSW.at hsd
        have hLk := (KK.at (by omega) hbl).up EE
        have hKd := ((L.kat hKC (by omega) hal).up KK.e).up EE
        have m1 : 1 ≤ many := by
          have h0 : 0 < rs.length := by omega
          obtain ⟨a, b, c⟩ := hPR.1 _ (List.getElem_mem h0)
          omega
        have ldsd : ld ≠ sd := fun e => by rw [← e, KK.d] at nsd; cases nsd
        refine ⟨_, rfl, _, rfl, _, rfl, fun x1 d1 nx1 nd1 ne1 => ?_⟩
        have f1 := ex_new (o := .ins CS d1 []) (Ex.new (o := .own x1) nd1) (by rw [upd_ne ne1.symm]; exact nx1)
        refine ⟨x1, ld, kd, d1, many, HE, rfl, m1, upd_same, nx1, f1, hLk, hKd, fun HF eF => ⟨rfl, ?_⟩⟩
        refine ⟨_, rfl, _, rfl, _, rfl, ld, sd, many, s, rfl, ldsd, hLk.up eF, hSwAt.up eF, fun HG ed ned eG hLk2 => ⟨_, rfl, fun x2 d2 nx2 nd2 ne2 => ?_⟩⟩
        have f2 := ex_new (o := .ins CS d2 []) (Ex.new (o := .own x2) nd2) (by rw [upd_ne ne2.symm]; exact nx2)
        refine ⟨x2, ed, kd, d2, many, HG, rfl, m1, upd_same, nx2, f2, hLk2, hKd.up (eF.trans eG), fun HI eI => ⟨rfl, szk, fun t nt => ?_⟩⟩
        have EA : Ex H HI := (((((E2.trans L.e).trans KK.e).trans EE).trans eF).trans eG).trans eI
        exact k _ t x1 x2 (ex_new EA nt) (fresh EA nt) upd_same
end
end K21
end

/-! K21Head -/
section
set_option Elab.async false
set_option linter.all false
set_option maxRecDepth 100000
set_option maxHeartbeats 0
/-! the head: one run of the top, the facts looked at behind it -/
namespace K21
open PySem PySem.Spec PyProof.Rows L2
abbrev R : PySem.W.OpenRow := PySem.W.OpenLaw.row PySem.Challenge.rw_toldpaths_k21_whole_line_told
/-- a list of addresses, reckoned before it is used -/
def now {α : Type} : List Addr → (List Addr → α) → α
  | [], k => k []
  | a :: r, k => HandSHeadRun.frNat a fun b => now r fun s => k (b :: s)
def part {α : Type} (g : Addr → Option Obj) : List Addr → (PySem.W.Frag → α) → α
  | [], k => k []
  | a :: r, k => match g a with
    | some o => part g r fun K => k ((a, o) :: K)
    | none => part g r k
theorem part_eq {α : Type} (g : Addr → Option Obj) : ∀ (as : List Addr) (k : PySem.W.Frag → α), part g as k = k (He.frG g as)
  | [], _ => rfl
  | a :: r, k => by
    unfold part He.frG
    rw [List.filterMap_cons]
    cases e : g a with
    | some o => exact part_eq g r _
    | none => exact part_eq g r k
def toRef : Option (Option Value) → List Addr
  | some (some (.ref a)) => [a]
  | _ => []
def behind (g : Addr → Option Obj) (a : Addr) : List Addr := match g a with
  | some ⟨_, _, .func fd, _⟩ => He.refV fd.code ++ He.refV fd.defaults
  | some ⟨_, _, .cls cd, _⟩ => [cd.ns]
  | _ => []
/-- the globals' dict, what the names mean, their code, the classes' dicts, the methods, their code -/
def reach (ns : List Str) (ms : List (Str × Str)) (g : Addr → Option Obj) : List Addr :=
  now (ns.flatMap fun x => toRef (PySem.W.nsIn (He.frG g [mainGlobals]) mainGlobals x)) fun l1 =>
    now (l1.flatMap (behind g)) fun l2 => part g (mainGlobals :: (l1 ++ l2)) fun K =>
      now (ms.flatMap fun m => toRef (PySem.W.findIn K (.ref (He.ga K m.1)) m.2)) fun l3 =>
        now (l3.flatMap (behind g)) fun l4 => mainGlobals :: (l1 ++ (l2 ++ (l3 ++ l4)))
def gnames : List Str := (fn.filterMap fun d => match d.at_.2 with | none => some d.at_.1 | some _ => none) ++ (["Book", "Line", "Store", "MANNERS"] : List Str)
def mnames : List (Str × Str) := fn.filterMap fun d => match d.at_.2 with | some m => some (d.at_.1, m) | none => none
abbrev AlM : Type := He.AlD × Bool
def valM : AlM := (He.valD fn, true)
def obsM (K : PySem.W.Frag) : AlM := (He.obsD fa fn K, ex K)
def SaysM (K : PySem.W.Frag) : Prop := obsM K = valM
def hk : PySem.W.Hook where
  α := AlM
  obs := fun s => part s.heap.get? (reach gnames mnames s.heap.get?) obsM
  val := fun _ => valM
  says := fun _ h => ∃ K : PySem.W.Frag, K.In h ∧ SaysM K
  of := fun _ s e => ⟨_, He.frG_in (as := reach gnames mnames s.heap.get?), by rw [part_eq] at e; exact e⟩
  keeps := fun _ _ _ ⟨K, hK, c⟩ k => ⟨K, PySem.W.Frag.In.keeps hK k, c⟩
def ob (s : PySem.W.SharedT) : AlM := part (HandSHeadRun.getT s) (reach gnames mnames (HandSHeadRun.getT s)) obsM
theorem ob_eq (s : PySem.W.SharedT) : ob s = hk.obs s.abs := by
  have e : HandSHeadRun.getT s = s.abs.heap.get? := funext (HandSHeadRun.getT_eq s)
  unfold ob
  rw [e] <;> rfl
theorem run (w : World) : HandSHeadRun.RunEq R (PySem.W.view R.prog [85]) hk ob 20000 loose w := by
  intro os
  kernel_rfl
end K21
end

/-! K21End -/
section
set_option Elab.async false
set_option linter.all false
set_option maxRecDepth 100000
set_option maxHeartbeats 4000000
/-! the end: the facts, each def's promise, the law (printed by gen_end.py) -/
namespace K21
open PySem PySem.Spec PyProof.Rows L2
theorem facts {P : Program} {w : World} {K : PySem.W.Frag} {h : Heap} {mg : Str → Option Value} {f : Addr} (X : K.In h) (G : h.Ns mainGlobals mg) (hfa : mg ("law" : Str) = some (.ref f)) (c0 : SaysM K) :
    ∃ fd : FuncData, (∀ (s : Shared) (v : Value), BindsTo s fd ⟨[v], []⟩ [("_law_script", v)]) ∧ ∀ base : Heap, K.In base → base.Ns mainGlobals mg → FnOk P w K mg base CX0 11 f fd ["_law_script"] (sp_law K) := by
  have c : He.SaysD fa fn K := congrArg (fun z : AlM => z.1) c0
  have cx : ex K = true := congrArg (fun z : AlM => z.2) c0
  obtain ⟨fd_is_integer, F_is_integer⟩ := c.def_ 0 (d := d_is_integer) rfl
  obtain ⟨fd_is_list, F_is_list⟩ := c.def_ 1 (d := d_is_list) rfl
  obtain ⟨fd_is_manner, F_is_manner⟩ := c.def_ 2 (d := d_is_manner) rfl
  obtain ⟨fd_is_rising, F_is_rising⟩ := c.def_ 3 (d := d_is_rising) rfl
  obtain ⟨fd_parsed, F_parsed⟩ := c.def_ 4 (d := d_parsed) rfl
  obtain ⟨fd_is_path, F_is_path⟩ := c.def_ 5 (d := d_is_path) rfl
  obtain ⟨fd_steps, F_steps⟩ := c.def_ 6 (d := d_steps) rfl
  obtain ⟨fd_marks, F_marks⟩ := c.def_ 7 (d := d_marks) rfl
  obtain ⟨fd_checked_paths, F_checked_paths⟩ := c.def_ 8 (d := d_checked_paths) rfl
  obtain ⟨fd_fits, F_fits⟩ := c.def_ 9 (d := d_fits) rfl
  obtain ⟨fd_line_bridges, F_line_bridges⟩ := c.def_ 10 (d := d_line_bridges) rfl
  obtain ⟨fd_checked_path, F_checked_path⟩ := c.def_ 11 (d := d_checked_path) rfl
  obtain ⟨fd_is_letter, F_is_letter⟩ := c.def_ 12 (d := d_is_letter) rfl
  obtain ⟨fd_is_thing, F_is_thing⟩ := c.def_ 13 (d := d_is_thing) rfl
  obtain ⟨fd_are_unlike, F_are_unlike⟩ := c.def_ 14 (d := d_are_unlike) rfl
  obtain ⟨fd_checked_pairs, F_checked_pairs⟩ := c.def_ 15 (d := d_checked_pairs) rfl
  obtain ⟨fd_checked_things, F_checked_things⟩ := c.def_ 16 (d := d_checked_things) rfl
  obtain ⟨fd_plan_of, F_plan_of⟩ := c.def_ 17 (d := d_plan_of) rfl
  obtain ⟨fd_tells_path, F_tells_path⟩ := c.def_ 18 (d := d_tells_path) rfl
  obtain ⟨fd_is_told, F_is_told⟩ := c.def_ 19 (d := d_is_told) rfl
  obtain ⟨fd_verdict, F_verdict⟩ := c.def_ 20 (d := d_verdict) rfl
  obtain ⟨fd_exchanged, F_exchanged⟩ := c.def_ 21 (d := d_exchanged) rfl
  obtain ⟨fd_line_stores, F_line_stores⟩ := c.def_ 22 (d := d_line_stores) rfl
  obtain ⟨fd_law_fresh, F_law_fresh⟩ := c.def_ 23 (d := d_law_fresh) rfl
  obtain ⟨fd_law_fill, F_law_fill⟩ := c.def_ 24 (d := d_law_fill) rfl
  obtain ⟨fd_law_take, F_law_take⟩ := c.def_ 25 (d := d_law_take) rfl
  obtain ⟨fd_law_one, F_law_one⟩ := c.def_ 26 (d := d_law_one) rfl
  obtain ⟨fd_law_same, F_law_same⟩ := c.def_ 27 (d := d_law_same) rfl
  obtain ⟨fd_law_read, F_law_read⟩ := c.def_ 28 (d := d_law_read) rfl
  obtain ⟨fd_law_word, F_law_word⟩ := c.def_ 29 (d := d_law_word) rfl
  obtain ⟨fd_law_marked, F_law_marked⟩ := c.def_ 30 (d := d_law_marked) rfl
  obtain ⟨fd_law_path, F_law_path⟩ := c.def_ 31 (d := d_law_path) rfl
  obtain ⟨fd_law_fits, F_law_fits⟩ := c.def_ 32 (d := d_law_fits) rfl
  obtain ⟨fd_law_led, F_law_led⟩ := c.def_ 33 (d := d_law_led) rfl
  obtain ⟨fd_law_is_plan, F_law_is_plan⟩ := c.def_ 34 (d := d_law_is_plan) rfl
  obtain ⟨fd_law_pieces, F_law_pieces⟩ := c.def_ 35 (d := d_law_pieces) rfl
  obtain ⟨fd_law_reached, F_law_reached⟩ := c.def_ 36 (d := d_law_reached) rfl
  obtain ⟨fd_law_fewer, F_law_fewer⟩ := c.def_ 37 (d := d_law_fewer) rfl
  obtain ⟨fd_law_crowded, F_law_crowded⟩ := c.def_ 38 (d := d_law_crowded) rfl
  obtain ⟨fd_law, F_law⟩ := c.def_ 39 (d := d_law) rfl
  obtain ⟨fd_Book_init, F_Book_init⟩ := c.def_ 40 (d := d_Book_init) rfl
  obtain ⟨fd_Line_init, F_Line_init⟩ := c.def_ 41 (d := d_Line_init) rfl
  obtain ⟨fd_Line_leads, F_Line_leads⟩ := c.def_ 42 (d := d_Line_leads) rfl
  obtain ⟨fd_Line_told_plan, F_Line_told_plan⟩ := c.def_ 43 (d := d_Line_told_plan) rfl
  obtain ⟨fd_Store_init, F_Store_init⟩ := c.def_ 44 (d := d_Store_init) rfl
  have T : Fx K mg := {
    n_isinstance := He.free_ok X G (c.fact 43 (f := .free "isinstance") rfl)
    n_str := He.free_ok X G (c.fact 44 (f := .free "str") rfl)
    n_int := He.free_ok X G (c.fact 45 (f := .free "int") rfl)
    n_bool := He.free_ok X G (c.fact 46 (f := .free "bool") rfl)
    n_list := He.free_ok X G (c.fact 47 (f := .free "list") rfl)
    n_tuple := He.free_ok X G (c.fact 48 (f := .free "tuple") rfl)
    n_dict := He.free_ok X G (c.fact 49 (f := .free "dict") rfl)
    n_all := He.free_ok X G (c.fact 50 (f := .free "all") rfl)
    n_any := He.free_ok X G (c.fact 51 (f := .free "any") rfl)
    n_len := He.free_ok X G (c.fact 52 (f := .free "len") rfl)
    n_zip := He.free_ok X G (c.fact 53 (f := .free "zip") rfl)
    n_enumerate := He.free_ok X G (c.fact 54 (f := .free "enumerate") rfl)
    n_range := He.free_ok X G (c.fact 55 (f := .free "range") rfl)
    n_sorted := He.free_ok X G (c.fact 56 (f := .free "sorted") rfl)
    n_min := He.free_ok X G (c.fact 57 (f := .free "min") rfl)
    g_SMALL := He.str_ok X G (c.fact 58 (f := .str "SMALL" "abcdefghijklmnopqrstuvwxyz") rfl)
    g_CAPITAL := He.str_ok X G (c.fact 59 (f := .str "CAPITAL" "ABCDEFGHIJKLMNOPQRSTUVWXYZ") rfl)
    g_DIGITS := He.str_ok X G (c.fact 60 (f := .str "DIGITS" "0123456789") rfl)
    g_MOST := He.int_ok X G (c.fact 62 (f := .int "MOST_PATHS" 8) rfl)
    g_MANNERS := ⟨_, (He.glo_ok X G (c.fact 61 (f := .glo "MANNERS") rfl)), fun H => He.tupB_ok cx H⟩ }
  have B : ClB K (He.ga K "Book") := ⟨(He.cls_ok (c.fact 63 (f := .cls "Book") rfl)), (He.noat_ok (c.fact 65 (f := .noat "Book" "manner") rfl)), (He.noat_ok (c.fact 66 (f := .noat "Book" "paths") rfl))⟩
  have BL : ClL K (He.ga K "Line") := ⟨(He.cls_ok (c.fact 67 (f := .cls "Line") rfl)), (He.noat_ok (c.fact 69 (f := .noat "Line" "last") rfl)), (He.noat_ok (c.fact 70 (f := .noat "Line" "bridges") rfl)), (He.noat_ok (c.fact 71 (f := .noat "Line" "costs") rfl)), (He.noat_ok (c.fact 72 (f := .noat "Line" "came") rfl))⟩
  have BS : ClS K (He.ga K "Store") := ⟨(He.cls_ok (c.fact 75 (f := .cls "Store") rfl)), (He.noat_ok (c.fact 77 (f := .noat "Store" "manner") rfl)), (He.noat_ok (c.fact 78 (f := .noat "Store" "many") rfl)), (He.noat_ok (c.fact 79 (f := .noat "Store" "link_lists") rfl)), (He.noat_ok (c.fact 80 (f := .noat "Store" "kind_lists") rfl))⟩
  have e := hfa.symm.trans (He.glo_ok X G (c.fact 39 (f := .glo "law") rfl))
  cases e
  have b := FunD.bindsA (ps := ["_law_script"]) F_law fun _ _ _ _ _ _ us hl => match us, hl with | [_], _ => rfl
  refine ⟨fd_law, fun s v => b s [v] rfl, fun base _ _ => ?_⟩
  have C_is_integer := ok_is_integer (P := P) (w := w) (base := base) F_is_integer (He.glo_ok X G (c.fact 0 (f := .glo "is_integer") rfl)) T
  have C_is_list := ok_is_list (P := P) (w := w) (base := base) F_is_list (He.glo_ok X G (c.fact 1 (f := .glo "is_list") rfl)) T
  have C_is_manner := ok_is_manner (P := P) (w := w) (base := base) F_is_manner (He.glo_ok X G (c.fact 2 (f := .glo "is_manner") rfl)) T
  have C_is_letter := ok_is_letter (P := P) (w := w) (base := base) F_is_letter (He.glo_ok X G (c.fact 12 (f := .glo "is_letter") rfl)) T
  have C_is_thing := ok_is_thing (P := P) (w := w) (base := base) F_is_thing (He.glo_ok X G (c.fact 13 (f := .glo "is_thing") rfl)) T C_is_integer
  have C_is_rising := ok_is_rising (P := P) (w := w) (base := base) F_is_rising (He.glo_ok X G (c.fact 3 (f := .glo "is_rising") rfl)) T
  have C_parsed := ok_parsed (P := P) (w := w) (base := base) F_parsed (He.glo_ok X G (c.fact 4 (f := .glo "parsed") rfl)) T C_is_rising
  have C_is_path := ok_is_path (P := P) (w := w) (base := base) F_is_path (He.glo_ok X G (c.fact 5 (f := .glo "is_path") rfl)) T C_parsed C_is_manner
  have C_steps := ok_steps (P := P) (w := w) (base := base) F_steps (He.glo_ok X G (c.fact 6 (f := .glo "steps") rfl)) T C_parsed
  have C_marks := ok_marks (P := P) (w := w) (base := base) F_marks (He.glo_ok X G (c.fact 7 (f := .glo "marks") rfl)) T C_parsed
  have C_checked_paths := ok_checked_paths (P := P) (w := w) (base := base) F_checked_paths (He.glo_ok X G (c.fact 8 (f := .glo "checked_paths") rfl)) T C_is_list C_is_path
  have C_Book : Mkc P w K mg base "Book" (He.ga K "Book") 5 ["self", "manner", "kept"] (sp_Book_init K (He.ga K "Book")) [] := ⟨_, fd_Book_init, [], ok_Book_init (P := P) (w := w) (base := base) F_Book_init T B C_checked_paths C_is_manner, (He.mkr_ok (c.fact 64 (f := .mkr "Book") rfl)), (He.glo_ok X G (c.fact 40 (f := .glo "Book") rfl)), (F_Book_init.bindsN fun _ _ _ _ _ _ us hl => match us, hl with | [_, _, _], _ => rfl), .nil⟩
  have C_checked_path := ok_checked_path (P := P) (w := w) (base := base) F_checked_path (He.glo_ok X G (c.fact 11 (f := .glo "checked_path") rfl)) T B C_is_path
  have C_fits := ok_fits (P := P) (w := w) (base := base) F_fits (He.glo_ok X G (c.fact 9 (f := .glo "fits") rfl)) T C_steps C_marks
  have C_line_bridges := ok_line_bridges (P := P) (w := w) (base := base) F_line_bridges (He.glo_ok X G (c.fact 10 (f := .glo "line_bridges") rfl)) T C_steps C_fits
  have C_Line_leads : Mth P w K mg base (He.ga K "Line") "leads" 1 ["self", "here", "there", "pair", "backs"] (sp_Line_leads K (He.ga K "Line")) := ⟨_, fd_Line_leads, ok_Line_leads (P := P) (w := w) (base := base) F_Line_leads T BL, (He.cls_ok (c.fact 67 (f := .cls "Line") rfl)), He.meth_ok (c.fact 73 (f := .meth "Line" "leads") rfl), (F_Line_leads.bindsN fun _ _ _ _ _ _ us hl => match us, hl with | [_, _, _, _, _], _ => rfl)⟩
  have C_Line : Mkc P w K mg base "Line" (He.ga K "Line") 6 ["self", "kept", "path"] (sp_Line_init K (He.ga K "Line")) [] := ⟨_, fd_Line_init, [], ok_Line_init (P := P) (w := w) (base := base) F_Line_init T BL C_line_bridges C_steps C_Line_leads, (He.mkr_ok (c.fact 68 (f := .mkr "Line") rfl)), (He.glo_ok X G (c.fact 41 (f := .glo "Line") rfl)), (F_Line_init.bindsN fun _ _ _ _ _ _ us hl => match us, hl with | [_, _, _], _ => rfl), .nil⟩
  have C_Line_told_plan : Mth P w K mg base (He.ga K "Line") "told_plan" 1 ["self"] (sp_Line_told_plan K (He.ga K "Line")) := ⟨_, fd_Line_told_plan, ok_Line_told_plan (P := P) (w := w) (base := base) F_Line_told_plan T BL, (He.cls_ok (c.fact 67 (f := .cls "Line") rfl)), He.meth_ok (c.fact 74 (f := .meth "Line" "told_plan") rfl), (F_Line_told_plan.bindsN fun _ _ _ _ _ _ us hl => match us, hl with | [_], _ => rfl)⟩
  have C_plan_of := ok_plan_of (P := P) (w := w) (base := base) F_plan_of (He.glo_ok X G (c.fact 17 (f := .glo "plan_of") rfl)) T C_Line C_Line_told_plan
  have C_tells_path := ok_tells_path (P := P) (w := w) (base := base) F_tells_path (He.glo_ok X G (c.fact 18 (f := .glo "tells_path") rfl)) T C_plan_of
  have C_is_told := ok_is_told (P := P) (w := w) (base := base) F_is_told (He.glo_ok X G (c.fact 19 (f := .glo "is_told") rfl)) T B C_checked_path C_tells_path
  have C_law_fresh := ok_law_fresh (P := P) (w := w) (base := base) F_law_fresh (He.glo_ok X G (c.fact 23 (f := .glo "_law_fresh") rfl)) T
  have C_law_fill := ok_law_fill (P := P) (w := w) (base := base) F_law_fill (He.glo_ok X G (c.fact 24 (f := .glo "_law_fill") rfl)) T
  have C_law_take := ok_law_take (P := P) (w := w) (base := base) F_law_take (He.glo_ok X G (c.fact 25 (f := .glo "_law_take") rfl)) T C_law_fill
  have C_law_one := ok_law_one (P := P) (w := w) (base := base) F_law_one (He.glo_ok X G (c.fact 26 (f := .glo "_law_one") rfl)) T C_law_take
  have C_law_read := ok_law_read (P := P) (w := w) (base := base) F_law_read (He.glo_ok X G (c.fact 28 (f := .glo "_law_read") rfl)) T
  have C_law_same := ok_law_same (P := P) (w := w) (base := base) F_law_same (He.glo_ok X G (c.fact 27 (f := .glo "_law_same") rfl)) T
  have C_law_fits := ok_law_fits (P := P) (w := w) (base := base) F_law_fits (He.glo_ok X G (c.fact 32 (f := .glo "_law_fits") rfl)) T C_law_read
  have C_law_led := ok_law_led (P := P) (w := w) (base := base) F_law_led (He.glo_ok X G (c.fact 33 (f := .glo "_law_led") rfl)) T C_law_fits C_law_read
  have C_law_is_plan := ok_law_is_plan (P := P) (w := w) (base := base) F_law_is_plan (He.glo_ok X G (c.fact 34 (f := .glo "_law_is_plan") rfl)) T C_law_led C_law_read
  have C_law_reached := ok_law_reached (P := P) (w := w) (base := base) F_law_reached (He.glo_ok X G (c.fact 36 (f := .glo "_law_reached") rfl)) T C_law_read C_law_fits
  have C_law_fewer := ok_law_fewer (P := P) (w := w) (base := base) F_law_fewer (He.glo_ok X G (c.fact 37 (f := .glo "_law_fewer") rfl)) T C_law_take
  have C_law_word := ok_law_word (P := P) (w := w) (base := base) F_law_word (He.glo_ok X G (c.fact 29 (f := .glo "_law_word") rfl)) T C_law_one C_law_take
  have C_law_marked := ok_law_marked (P := P) (w := w) (base := base) F_law_marked (He.glo_ok X G (c.fact 30 (f := .glo "_law_marked") rfl)) T C_law_take
  have C_law_path := ok_law_path (P := P) (w := w) (base := base) F_law_path (He.glo_ok X G (c.fact 31 (f := .glo "_law_path") rfl)) T C_law_word C_law_marked C_law_one C_law_take
  have C_law_pieces := ok_law_pieces (P := P) (w := w) (base := base) F_law_pieces (He.glo_ok X G (c.fact 35 (f := .glo "_law_pieces") rfl)) T C_law_read C_law_take C_law_fewer
  have C_law_crowded := ok_law_crowded (P := P) (w := w) (base := base) F_law_crowded (He.glo_ok X G (c.fact 38 (f := .glo "_law_crowded") rfl)) T
  have C_are_unlike := ok_are_unlike (P := P) (w := w) (base := base) F_are_unlike (He.glo_ok X G (c.fact 14 (f := .glo "are_unlike") rfl)) T
  have C_are_unlikeT := ok_are_unlikeT (P := P) (w := w) (base := base) F_are_unlike (He.glo_ok X G (c.fact 14 (f := .glo "are_unlike") rfl)) T
  have C_checked_pairs := ok_checked_pairs (P := P) (w := w) (base := base) F_checked_pairs (He.glo_ok X G (c.fact 15 (f := .glo "checked_pairs") rfl)) T C_are_unlikeT C_is_list C_is_thing
  have C_checked_things := ok_checked_things (P := P) (w := w) (base := base) F_checked_things (He.glo_ok X G (c.fact 16 (f := .glo "checked_things") rfl)) T C_is_list C_are_unlike C_is_thing
  obtain ⟨ds_S, vs_S, bs_S⟩ := F_Store_init.binds1 (ps := ["self", "manner", "many", "links", "kinds"]) 5 1 (fun z => nomatch z) rfl fun _ _ _ _ _ _ _ us its hl hi => match us, hl, its, hi with | [_, _, _, _, _], _, [_], _ => ⟨_, rfl, rfl⟩
  have C_Store : Mkc P w K mg base "Store" (He.ga K "Store") 5 ["self", "manner", "many", "links", "kinds"] (sp_Store_init K (He.ga K "Store")) [] := ⟨_, fd_Store_init, ds_S, (ok_Store_init (P := P) (w := w) (base := base) F_Store_init T BS C_is_manner C_checked_pairs C_checked_things C_is_integer C_is_letter).mono (by decide), (He.mkr_ok (c.fact 76 (f := .mkr "Store") rfl)), (He.glo_ok X G (c.fact 42 (f := .glo "Store") rfl)), bs_S, vs_S⟩
  have C_exchanged := ok_exchanged (P := P) (w := w) (base := base) F_exchanged (He.glo_ok X G (c.fact 21 (f := .glo "exchanged") rfl)) T
  have C_line_stores := ok_line_stores (P := P) (w := w) (base := base) F_line_stores (He.glo_ok X G (c.fact 22 (f := .glo "line_stores") rfl)) T BL C_Line C_Store C_marks C_steps C_exchanged
  have C_verdict := ok_verdict (P := P) (w := w) (base := base) F_verdict (He.glo_ok X G (c.fact 20 (f := .glo "verdict") rfl)) T B C_checked_path C_tells_path C_line_stores C_plan_of
  exact ok_law F_law T B C_Book C_law_fresh C_law_path C_law_pieces C_verdict C_law_one C_law_take C_law_crowded C_law_reached C_law_same C_law_read C_is_told C_law_is_plan
end K21
open PySem PySem.W PySem.Calls PyProof.Rows
theorem PySem.Challenge.cw_toldpaths_k21_whole_line_told_holds : PySem.Challenge.rw_toldpaths_k21_whole_line_told.Holds := by
  w_on; o_law
  refine HandSHeadRun.head_any (r := K21.R) (q := view K21.R.prog [85]) (H := K21.hk) (ob := K21.ob) (M := 20000) (loose := K21.loose) (d := HandSHeadRun.topDef K21.R.prog 85) (kwd := []) K21.ob_eq
    (by kernel_rfl) (fun s => by kernel_rfl) K21.run (by kernel_rfl) (by kernel_rfl) (by kernel_rfl) (by rfl) (by first | assumption | decide +kernel) (by decide +kernel) ⟨rfl, rfl, rfl, rfl, rfl, by decide +kernel⟩ ?hw ?hc
  case hw => w_witness2
  case hc =>
    refine L2.walk_ofE (l := PySem.Challenge.rw_toldpaths_k21_whole_line_told) (n := 63) (k := 11) (x := "_law_script") (CX := L2.CX0) rfl (by decide) (by kernel_rfl) ⟨rfl, by decide, by decide⟩ ?F (fun _ _ _ _ z => z)
    intro w mg fa h Y G hmg0
    obtain ⟨K, KX, c⟩ := Y
    have hmg : mg ("law" : PySem.Str) = some (.ref fa) := by
      have e : (HandSHeadRun.topDef K21.R.prog 85).name = ("law" : PySem.Str) := by kernel_rfl
      rw [← e]
      exact hmg0
    obtain ⟨fd, hb, hF⟩ := K21.facts (P := (PySem.Challenge.rw_toldpaths_k21_whole_line_told).prog) (w := w) KX G hmg c
    exact ⟨K, fd, K21.sp_law K, KX, hb, fun H a ns hl _ hS => ⟨a, ns, rfl, hS, hl, fun _ => rfl⟩, hF⟩
end
