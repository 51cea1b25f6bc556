import PyProof.Rows.All
import Wide.All
import OpenK.AllK
import Wide.FinOn
import KE.KStateDown
import Lean
import HandS.ForMost
import HandS.More
import HandS.WordsExc
import HandS.Defaults
import HandS.Head0
import HandS.Head1
import HandS.Head2
import HandS.HeadEnd
import HandS.HeadHook1
import HandS.HeadHook2
import PySem.Challenge.RW_jointhands_k04_the_first_that_is_learned
import HandS.Evl
import HandS.IsInst
import HandS.TupAny
import HandS.TupMul
import HandS.TupLen
import KE.KDictCopyH
import KE.KSortTup
import HandS.SortOrd
import HandS.DictEq
import HandS.Sort
import KE.KeyNested
import HandS.SetKeys
import HandS.Walk
import HandS.NoneIn
set_option Elab.async false
set_option maxRecDepth 100000
set_option maxHeartbeats 0
namespace JH
open PySem PySem.Spec PyProof.Rows L2
def top (i : Nat) : Stmt := PySem.Challenge.pw_jointhands_k04_the_first_that_is_learned.main.body.getD i (.Pass ⟨0, 0, 0, 0⟩)
abbrev s_is_integer : Stmt := top 5
abbrev s_is_listed : Stmt := top 6
abbrev s_is_between : Stmt := top 14
abbrev s_check_table : Stmt := top 15
abbrev s_are_told : Stmt := top 16
abbrev s_are_bits : Stmt := top 17
abbrev s_Shape_init : Stmt := inClass (top 18) 0
abbrev s_Shape_is_say : Stmt := inClass (top 18) 1
abbrev s_Shape_is_end : Stmt := inClass (top 18) 2
abbrev s_Shape_is_end_of_people : Stmt := inClass (top 18) 3
abbrev s_check_tree : Stmt := top 19
abbrev s_check_talk : Stmt := top 20
abbrev s_hold_talk : Stmt := top 21
abbrev s_pair_of : Stmt := top 22
abbrev s_Held_init : Stmt := inClass (top 23) 0
abbrev s_Held_hold_all : Stmt := inClass (top 23) 1
abbrev s_Held_counts : Stmt := inClass (top 23) 2
abbrev s_Held_answer : Stmt := inClass (top 23) 3
abbrev s_Held_learned_with : Stmt := inClass (top 23) 4
abbrev s_Held_learned : Stmt := inClass (top 23) 5
abbrev s_first_unlike : Stmt := top 24
abbrev s_flaw_of : Stmt := top 25
abbrev s_law_draws : Stmt := top 27
abbrev s_law_take : Stmt := top 28
abbrev s_law_table : Stmt := top 29
abbrev s_law_bits : Stmt := top 30
abbrev s_law_held : Stmt := top 31
abbrev s_law_rising : Stmt := top 32
abbrev s_law_same : Stmt := top 33
abbrev s_law_constant : Stmt := top 34
abbrev s_law_bundle : Stmt := top 35
abbrev s_law_answer : Stmt := top 36
abbrev s_law_shown : Stmt := top 37
abbrev s_law_inputs : Stmt := top 38
abbrev s_law_right_tree : Stmt := top 39
abbrev s_law_right_talk : Stmt := top 40
abbrev s_law_wrongs : Stmt := top 41
abbrev s_law_counts : Stmt := top 42
abbrev s_law_learned : Stmt := top 43
abbrev s_law_learns : Stmt := top 44
abbrev s_law_told_answer : Stmt := top 45
abbrev s_law_easy_table : Stmt := top 46
abbrev s_law_is_right : Stmt := top 47
abbrev s_law : Stmt := top 48
abbrev FnP (K : PySem.W.Frag) (x qual : Str) (st : Stmt) (f : Addr) (fd : FuncData) : Prop := FunD K x qual (defArgs st) (defBody st) (defScope st) [] [] f fd
def d_is_integer : He.DefD := ⟨("is_integer", none), "is_integer", "is_integer", defArgs s_is_integer, defBody s_is_integer, defScope s_is_integer, [], []⟩
def d_is_listed : He.DefD := ⟨("is_listed", none), "is_listed", "is_listed", defArgs s_is_listed, defBody s_is_listed, defScope s_is_listed, [], []⟩
def d_is_between : He.DefD := ⟨("is_between", none), "is_between", "is_between", defArgs s_is_between, defBody s_is_between, defScope s_is_between, [], []⟩
def d_check_table : He.DefD := ⟨("check_table", none), "check_table", "check_table", defArgs s_check_table, defBody s_check_table, defScope s_check_table, [], []⟩
def d_are_told : He.DefD := ⟨("are_told", none), "are_told", "are_told", defArgs s_are_told, defBody s_are_told, defScope s_are_told, [], []⟩
def d_are_bits : He.DefD := ⟨("are_bits", none), "are_bits", "are_bits", defArgs s_are_bits, defBody s_are_bits, defScope s_are_bits, [], []⟩
def d_Shape_init : He.DefD := ⟨("Shape", some "__init__"), "__init__", "Shape.__init__", defArgs s_Shape_init, defBody s_Shape_init, defScope s_Shape_init, [], []⟩
def d_Shape_is_say : He.DefD := ⟨("Shape", some "is_say"), "is_say", "Shape.is_say", defArgs s_Shape_is_say, defBody s_Shape_is_say, defScope s_Shape_is_say, [], []⟩
def d_Shape_is_end : He.DefD := ⟨("Shape", some "is_end"), "is_end", "Shape.is_end", defArgs s_Shape_is_end, defBody s_Shape_is_end, defScope s_Shape_is_end, [], []⟩
def d_Shape_is_end_of_people : He.DefD := ⟨("Shape", some "is_end_of_people"), "is_end_of_people", "Shape.is_end_of_people", defArgs s_Shape_is_end_of_people, defBody s_Shape_is_end_of_people, defScope s_Shape_is_end_of_people, [], []⟩
def d_check_tree : He.DefD := ⟨("check_tree", none), "check_tree", "check_tree", defArgs s_check_tree, defBody s_check_tree, defScope s_check_tree, [], []⟩
def d_check_talk : He.DefD := ⟨("check_talk", none), "check_talk", "check_talk", defArgs s_check_talk, defBody s_check_talk, defScope s_check_talk, [], []⟩
def d_hold_talk : He.DefD := ⟨("hold_talk", none), "hold_talk", "hold_talk", defArgs s_hold_talk, defBody s_hold_talk, defScope s_hold_talk, [], []⟩
def d_pair_of : He.DefD := ⟨("pair_of", none), "pair_of", "pair_of", defArgs s_pair_of, defBody s_pair_of, defScope s_pair_of, [], []⟩
def d_Held_init : He.DefD := ⟨("Held", some "__init__"), "__init__", "Held.__init__", defArgs s_Held_init, defBody s_Held_init, defScope s_Held_init, [], []⟩
def d_Held_hold_all : He.DefD := ⟨("Held", some "hold_all"), "hold_all", "Held.hold_all", defArgs s_Held_hold_all, defBody s_Held_hold_all, defScope s_Held_hold_all, [], []⟩
def d_Held_counts : He.DefD := ⟨("Held", some "counts"), "counts", "Held.counts", defArgs s_Held_counts, defBody s_Held_counts, defScope s_Held_counts, [], []⟩
def d_Held_answer : He.DefD := ⟨("Held", some "answer"), "answer", "Held.answer", defArgs s_Held_answer, defBody s_Held_answer, defScope s_Held_answer, [], []⟩
def d_Held_learned_with : He.DefD := ⟨("Held", some "learned_with"), "learned_with", "Held.learned_with", defArgs s_Held_learned_with, defBody s_Held_learned_with, defScope s_Held_learned_with, [], []⟩
def d_Held_learned : He.DefD := ⟨("Held", some "learned"), "learned", "Held.learned", defArgs s_Held_learned, defBody s_Held_learned, defScope s_Held_learned, [], []⟩
def d_first_unlike : He.DefD := ⟨("first_unlike", none), "first_unlike", "first_unlike", defArgs s_first_unlike, defBody s_first_unlike, defScope s_first_unlike, [], []⟩
def d_flaw_of : He.DefD := ⟨("flaw_of", none), "flaw_of", "flaw_of", defArgs s_flaw_of, defBody s_flaw_of, defScope s_flaw_of, [], []⟩
def d_law_draws : He.DefD := ⟨("_law_draws", none), "_law_draws", "_law_draws", defArgs s_law_draws, defBody s_law_draws, defScope s_law_draws, [], []⟩
def d_law_take : He.DefD := ⟨("_law_take", none), "_law_take", "_law_take", defArgs s_law_take, defBody s_law_take, defScope s_law_take, [], []⟩
def d_law_table : He.DefD := ⟨("_law_table", none), "_law_table", "_law_table", defArgs s_law_table, defBody s_law_table, defScope s_law_table, [], []⟩
def d_law_bits : He.DefD := ⟨("_law_bits", none), "_law_bits", "_law_bits", defArgs s_law_bits, defBody s_law_bits, defScope s_law_bits, [], []⟩
def d_law_held : He.DefD := ⟨("_law_held", none), "_law_held", "_law_held", defArgs s_law_held, defBody s_law_held, defScope s_law_held, [], []⟩
def d_law_rising : He.DefD := ⟨("_law_rising", none), "_law_rising", "_law_rising", defArgs s_law_rising, defBody s_law_rising, defScope s_law_rising, [], []⟩
def d_law_same : He.DefD := ⟨("_law_same", none), "_law_same", "_law_same", defArgs s_law_same, defBody s_law_same, defScope s_law_same, [], []⟩
def d_law_constant : He.DefD := ⟨("_law_constant", none), "_law_constant", "_law_constant", defArgs s_law_constant, defBody s_law_constant, defScope s_law_constant, [], []⟩
def d_law_bundle : He.DefD := ⟨("_law_bundle", none), "_law_bundle", "_law_bundle", defArgs s_law_bundle, defBody s_law_bundle, defScope s_law_bundle, [], []⟩
def d_law_answer : He.DefD := ⟨("_law_answer", none), "_law_answer", "_law_answer", defArgs s_law_answer, defBody s_law_answer, defScope s_law_answer, [], []⟩
def d_law_shown : He.DefD := ⟨("_law_shown", none), "_law_shown", "_law_shown", defArgs s_law_shown, defBody s_law_shown, defScope s_law_shown, [], []⟩
def d_law_inputs : He.DefD := ⟨("_law_inputs", none), "_law_inputs", "_law_inputs", defArgs s_law_inputs, defBody s_law_inputs, defScope s_law_inputs, [], []⟩
def d_law_right_tree : He.DefD := ⟨("_law_right_tree", none), "_law_right_tree", "_law_right_tree", defArgs s_law_right_tree, defBody s_law_right_tree, defScope s_law_right_tree, [], []⟩
def d_law_right_talk : He.DefD := ⟨("_law_right_talk", none), "_law_right_talk", "_law_right_talk", defArgs s_law_right_talk, defBody s_law_right_talk, defScope s_law_right_talk, [], []⟩
def d_law_wrongs : He.DefD := ⟨("_law_wrongs", none), "_law_wrongs", "_law_wrongs", defArgs s_law_wrongs, defBody s_law_wrongs, defScope s_law_wrongs, [], []⟩
def d_law_counts : He.DefD := ⟨("_law_counts", none), "_law_counts", "_law_counts", defArgs s_law_counts, defBody s_law_counts, defScope s_law_counts, [], []⟩
def d_law_learned : He.DefD := ⟨("_law_learned", none), "_law_learned", "_law_learned", defArgs s_law_learned, defBody s_law_learned, defScope s_law_learned, [], []⟩
def d_law_learns : He.DefD := ⟨("_law_learns", none), "_law_learns", "_law_learns", defArgs s_law_learns, defBody s_law_learns, defScope s_law_learns, [], []⟩
def d_law_told_answer : He.DefD := ⟨("_law_told_answer", none), "_law_told_answer", "_law_told_answer", defArgs s_law_told_answer, defBody s_law_told_answer, defScope s_law_told_answer, [], []⟩
def d_law_easy_table : He.DefD := ⟨("_law_easy_table", none), "_law_easy_table", "_law_easy_table", defArgs s_law_easy_table, defBody s_law_easy_table, defScope s_law_easy_table, [], []⟩
def d_law_is_right : He.DefD := ⟨("_law_is_right", none), "_law_is_right", "_law_is_right", defArgs s_law_is_right, defBody s_law_is_right, defScope s_law_is_right, [], []⟩
def d_law : He.DefD := ⟨("law", none), "law", "law", defArgs s_law, defBody s_law, defScope s_law, [], []⟩
def fn : List He.DefD := [d_is_integer, d_is_listed, d_is_between, d_check_table, d_are_told, d_are_bits, d_Shape_init, d_Shape_is_say, d_Shape_is_end, d_Shape_is_end_of_people, d_check_tree, d_check_talk, d_hold_talk, d_pair_of, d_Held_init, d_Held_hold_all, d_Held_counts, d_Held_answer, d_Held_learned_with, d_Held_learned, d_first_unlike, d_flaw_of, d_law_draws, d_law_take, d_law_table, d_law_bits, d_law_held, d_law_rising, d_law_same, d_law_constant, d_law_bundle, d_law_answer, d_law_shown, d_law_inputs, d_law_right_tree, d_law_right_talk, d_law_wrongs, d_law_counts, d_law_learned, d_law_learns, d_law_told_answer, d_law_easy_table, d_law_is_right, d_law]
def fa0 : List He.Fa := [.glo "is_integer", .glo "is_listed", .glo "is_between", .glo "check_table", .glo "are_told", .glo "are_bits", .glo "check_tree", .glo "check_talk", .glo "hold_talk", .glo "pair_of", .glo "first_unlike", .glo "flaw_of", .glo "_law_draws", .glo "_law_take", .glo "_law_table", .glo "_law_bits", .glo "_law_held", .glo "_law_rising", .glo "_law_same", .glo "_law_constant", .glo "_law_bundle", .glo "_law_answer", .glo "_law_shown", .glo "_law_inputs", .glo "_law_right_tree", .glo "_law_right_talk", .glo "_law_wrongs", .glo "_law_counts", .glo "_law_learned", .glo "_law_learns"]
def fa1 : List He.Fa := [.glo "_law_told_answer", .glo "_law_easy_table", .glo "_law_is_right", .glo "law", .glo "Shape", .glo "Held", .free "isinstance", .free "int", .free "bool", .free "str", .free "tuple", .free "list", .free "all", .free "len", .free "range", .free "enumerate", .free "sorted", .free "max", .free "abs", .int "MOST_LINES" 100, .int "MOST_COINS" 256, .int "MOST_DEPTH" 250, .int "MOST_TREES" 40000, .int "MOST_PEOPLE_TREES" 200, .cls "Shape", .mkr "Shape", .noat "Shape" "inputs", .noat "Shape" "coins", .meth "Shape" "is_say", .meth "Shape" "is_end"]
def fa2 : List He.Fa := [.meth "Shape" "is_end_of_people", .cls "Held", .mkr "Held", .noat "Held" "table", .noat "Held" "inputs", .noat "Held" "coins", .noat "Held" "bits", .noat "Held" "wrong", .meth "Held" "hold_all", .meth "Held" "counts", .meth "Held" "answer", .meth "Held" "learned_with", .meth "Held" "learned"]
def fa : List He.Fa := fa0 ++ fa1 ++ fa2
def names0 : List PySem.Str := ["JointError", "BadTalk", "BadTable", "is_integer", "is_listed", "MOST_LINES", "MOST_COINS", "MOST_DEPTH", "MOST_TREES", "MOST_PEOPLE_TREES", "NOTHING", "is_between", "check_table", "are_told", "are_bits", "Shape", "check_tree", "check_talk", "hold_talk", "pair_of", "Held", "first_unlike", "flaw_of", "_law_draws", "_law_take", "_law_table", "_law_bits", "_law_held", "_law_rising", "_law_same"]
def names1 : List PySem.Str := ["_law_constant", "_law_bundle", "_law_answer", "_law_shown", "_law_inputs", "_law_right_tree", "_law_right_talk", "_law_wrongs", "_law_counts", "_law_learned", "_law_learns", "_law_told_answer", "_law_easy_table", "_law_is_right"]
def names : List PySem.Str := names0 ++ names1
end JH
set_option Elab.async false
set_option maxRecDepth 100000
set_option maxHeartbeats 4000000
/-! data in the heap, and what an expression is worth -/
namespace JH
open PySem L2 Evl

inductive D where
  | non | bl (b : Bool) | int (i : Int) | str (s : Str) | tup (l : List D) | lst (l : List D)

mutual
/-- the value v bears the datum d in H -/
def Dat (H : Hp) : D → V → Prop
  | .non, v => v = .non
  | .bl b, v => v = .bl b
  | .int i, v => v = .int i
  | .str s, v => v = .str s
  | .tup ds, v => ∃ a vs, v = .ref a ∧ H a = some (.tup vs) ∧ DatL H ds vs
  | .lst ds, v => ∃ a vs, v = .ref a ∧ H a = some (.lst vs) ∧ DatL H ds vs
def DatL (H : Hp) : List D → List V → Prop
  | [], vs => vs = []
  | d :: ds, vs => ∃ v r, vs = v :: r ∧ Dat H d v ∧ DatL H ds r
end
mutual
/-- no list within -/
def D.T : D → Bool
  | .non => true
  | .bl _ => true
  | .int _ => true
  | .str _ => true
  | .tup l => D.TL l
  | .lst _ => false
def D.TL : List D → Bool
  | [] => true
  | d :: ds => d.T && D.TL ds
end
/-- every tuple is kept -/
def TE (H H' : Hp) : Prop := ∀ a xs, H a = some (.tup xs) → H' a = some (.tup xs)
theorem TE.refl (H : Hp) : TE H H := fun _ _ h => h
theorem TE.trans {H H1 H2 : Hp} (a : TE H H1) (b : TE H1 H2) : TE H H2 := fun x xs h => b x xs (a x xs h)
theorem TE.ex {H H' : Hp} (e : Ex H H') : TE H H' := fun a xs h => e a _ h
theorem TE.upd {H : Hp} {l : Addr} {xs : List V} {o : HO} (h : H l = some (.lst xs)) : TE H (upd H l o) := fun a ys e => by
  rw [upd_ne (ne_of e h (by intro q; cases q))]
  exact e
theorem TE.updD {H : Hp} {l : Addr} {kvs : List (List Key × V)} {o : HO} (h : H l = some (.dT kvs)) : TE H (L2.upd H l o) := fun a ys e => by
  rw [upd_ne (ne_of e h (by intro q; cases q))]
  exact e
theorem TE.updK {H : Hp} {l : Addr} {kvs : List (Key × V)} {o : HO} (h : H l = some (.dK kvs)) : TE H (L2.upd H l o) := fun a ys e => by
  rw [upd_ne (ne_of e h (by intro q; cases q))]
  exact e
theorem TE.new {H : Hp} {p : Addr} {o : HO} (h : H p = none) : TE H (L2.upd H p o) := TE.ex (Ex.new h)
/-- a tuple's place that was kept, with what stood there otherwise -/
theorem TE.mut {H H' : Hp} {p : Addr} {o : HO} (e : TE H H') (h : ∀ xs, H p ≠ some (.tup xs)) : TE H (L2.upd H' p o) := fun a xs q => by
  by_cases hp : a = p
  · subst hp; exact absurd q (h xs)
  · rw [upd_ne hp]; exact e a xs q

section
variable {H H' : Hp}
mutual
theorem Dat.ex (e : Ex H H') : ∀ {d : D} {v : V}, Dat H d v → Dat H' d v
  | .non, _, h => h
  | .bl _, _, h => h
  | .int _, _, h => h
  | .str _, _, h => h
  | .tup _, _, h => let ⟨a, vs, h1, h2, h3⟩ := h; ⟨a, vs, h1, e a _ h2, DatL.ex e h3⟩
  | .lst _, _, h => let ⟨a, vs, h1, h2, h3⟩ := h; ⟨a, vs, h1, e a _ h2, DatL.ex e h3⟩
theorem DatL.ex (e : Ex H H') : ∀ {ds : List D} {vs : List V}, DatL H ds vs → DatL H' ds vs
  | [], _, h => h
  | _ :: _, _, h => let ⟨v, r, h1, h2, h3⟩ := h; ⟨v, r, h1, Dat.ex e h2, DatL.ex e h3⟩
end
mutual
theorem Dat.te (e : TE H H') : ∀ {d : D} {v : V}, d.T = true → Dat H d v → Dat H' d v
  | .non, _, _, h => h
  | .bl _, _, _, h => h
  | .int _, _, _, h => h
  | .str _, _, _, h => h
  | .tup _, _, t, h => let ⟨a, vs, h1, h2, h3⟩ := h; ⟨a, vs, h1, e a _ h2, DatL.te e (by simpa [D.T] using t) h3⟩
  | .lst _, _, t, _ => by simp [D.T] at t
theorem DatL.te (e : TE H H') : ∀ {ds : List D} {vs : List V}, D.TL ds = true → DatL H ds vs → DatL H' ds vs
  | [], _, _, h => h
  | d :: ds, _, t, h => by
    obtain ⟨v, r, h1, h2, h3⟩ := h
    have t2 : d.T = true ∧ D.TL ds = true := by simpa [D.TL] using t
    exact ⟨v, r, h1, Dat.te e t2.1 h2, DatL.te e t2.2 h3⟩
end
theorem DatL.length : ∀ {ds : List D} {vs : List V}, DatL H ds vs → vs.length = ds.length
  | [], _, h => by rw [show _ = [] from h]; rfl
  | _ :: _, _, h => by
    obtain ⟨v, r, rfl, _, h3⟩ := h
    rw [List.length_cons, List.length_cons, DatL.length h3]
theorem DatL.get : ∀ {ds : List D} {vs : List V} {i : Nat} {d : D}, DatL H ds vs → ds[i]? = some d → ∃ v, vs[i]? = some v ∧ Dat H d v
  | [], _, i, _, _, e => by simp at e
  | _ :: _, _, 0, _, h, e => by
    obtain ⟨v, r, rfl, h2, _⟩ := h
    simp at e; subst e
    exact ⟨v, rfl, h2⟩
  | _ :: ds, _, i + 1, d, h, e => by
    obtain ⟨v, r, rfl, _, h3⟩ := h
    obtain ⟨u, h1, h2⟩ := DatL.get (i := i) (d := d) h3 (by simpa using e)
    exact ⟨u, by simpa using h1, h2⟩
theorem DatL.getV : ∀ {ds : List D} {vs : List V} {i : Nat} {v : V}, DatL H ds vs → vs[i]? = some v → ∃ d, ds[i]? = some d ∧ Dat H d v
  | [], _, i, _, h, e => by
    have : _ = [] := h
    subst this
    simp at e
  | d :: _, _, 0, _, h, e => by
    obtain ⟨v, r, rfl, h2, _⟩ := h
    simp at e; subst e
    exact ⟨d, rfl, h2⟩
  | _ :: ds, _, i + 1, w, h, e => by
    obtain ⟨v, r, rfl, _, h3⟩ := h
    obtain ⟨u, h1, h2⟩ := DatL.getV (i := i) (v := w) h3 (by simpa using e)
    exact ⟨u, by simpa using h1, h2⟩
theorem DatL.append : ∀ {ds es : List D} {vs us : List V}, DatL H ds vs → DatL H es us → DatL H (ds ++ es) (vs ++ us)
  | [], _, _, _, h, k => by
    have : _ = [] := h
    subst this
    exact k
  | _ :: _, _, _, _, h, k => by
    obtain ⟨v, r, rfl, h2, h3⟩ := h
    exact ⟨v, _, rfl, h2, DatL.append h3 k⟩
theorem DatL.nil : DatL H [] [] := rfl
theorem DatL.cons {d : D} {v : V} {ds : List D} {vs : List V} (h : Dat H d v) (k : DatL H ds vs) : DatL H (d :: ds) (v :: vs) := ⟨v, vs, rfl, h, k⟩
theorem DatL.snoc {ds : List D} {vs : List V} {d : D} {v : V} (h : DatL H ds vs) (k : Dat H d v) : DatL H (ds ++ [d]) (vs ++ [v]) := h.append (DatL.cons k DatL.nil)
theorem DatL.take (n : Nat) : ∀ {ds : List D} {vs : List V}, DatL H ds vs → DatL H (ds.take n) (vs.take n) := by
  induction n with
  | zero => intro ds vs _; rfl
  | succ n ih =>
    intro ds vs h
    cases ds with
    | nil =>
      have : vs = [] := h
      subst this
      rfl
    | cons d ds =>
      obtain ⟨v, r, rfl, h2, h3⟩ := h
      exact ⟨v, _, rfl, h2, ih h3⟩
theorem DatL.drop (n : Nat) : ∀ {ds : List D} {vs : List V}, DatL H ds vs → DatL H (ds.drop n) (vs.drop n) := by
  induction n with
  | zero => intro ds vs h; exact h
  | succ n ih =>
    intro ds vs h
    cases ds with
    | nil =>
      have : vs = [] := h
      subst this
      rfl
    | cons d ds =>
      obtain ⟨v, r, rfl, h2, h3⟩ := h
      exact ih h3
theorem DatL.eraseIdx (n : Nat) : ∀ {ds : List D} {vs : List V}, DatL H ds vs → DatL H (ds.eraseIdx n) (vs.eraseIdx n) := by
  induction n with
  | zero =>
    intro ds vs h
    cases ds with
    | nil =>
      have : vs = [] := h
      subst this
      rfl
    | cons d ds =>
      obtain ⟨v, r, rfl, h2, h3⟩ := h
      exact h3
  | succ n ih =>
    intro ds vs h
    cases ds with
    | nil =>
      have : vs = [] := h
      subst this
      rfl
    | cons d ds =>
      obtain ⟨v, r, rfl, h2, h3⟩ := h
      exact ⟨v, _, rfl, h2, ih h3⟩
theorem DatL.ints : ∀ (ns : List Int), DatL H (ns.map D.int) (ns.map V.int)
  | [] => rfl
  | n :: ns => ⟨_, _, rfl, rfl, DatL.ints ns⟩
theorem DatL.of_ints : ∀ {ns : List Int} {vs : List V}, DatL H (ns.map D.int) vs → vs = ns.map V.int
  | [], _, h => h
  | n :: ns, _, h => by
    obtain ⟨v, r, rfl, h2, h3⟩ := h
    have : v = .int n := h2
    rw [this, DatL.of_ints h3]
    rfl
theorem DatL.of_bls : ∀ {ns : List Bool} {vs : List V}, DatL H (ns.map D.bl) vs → vs = ns.map V.bl
  | [], _, h => h
  | n :: ns, _, h => by
    obtain ⟨v, r, rfl, h2, h3⟩ := h
    have : v = .bl n := h2
    rw [this, DatL.of_bls h3]
    rfl
theorem Dat.tup {ds : List D} {a : Addr} {vs : List V} (h : H a = some (.tup vs)) (k : DatL H ds vs) : Dat H (.tup ds) (.ref a) := ⟨a, vs, rfl, h, k⟩
theorem Dat.lst {ds : List D} {a : Addr} {vs : List V} (h : H a = some (.lst vs)) (k : DatL H ds vs) : Dat H (.lst ds) (.ref a) := ⟨a, vs, rfl, h, k⟩
end
theorem TL_map {α : Type} (f : α → D) (h : ∀ a, (f a).T = true) : ∀ l : List α, D.TL (l.map f) = true
  | [] => rfl
  | a :: l => by simp [D.TL, h a, TL_map f h l]
theorem TL_ints (l : List Int) : D.TL (l.map D.int) = true := TL_map D.int (fun _ => rfl) l
theorem TL_append {a b : List D} (ha : D.TL a = true) (hb : D.TL b = true) : D.TL (a ++ b) = true := by
  induction a with
  | nil => exact hb
  | cons d ds ih =>
    have t2 : d.T = true ∧ D.TL ds = true := by simpa [D.TL] using ha
    simp [D.TL, t2.1, ih t2.2]
theorem TL_get {l : List D} (h : D.TL l = true) {i : Nat} {d : D} (e : l[i]? = some d) : d.T = true := by
  induction l generalizing i with
  | nil => simp at e
  | cons a l ih =>
    have t2 : a.T = true ∧ D.TL l = true := by simpa [D.TL] using h
    cases i with
    | zero => simp at e; subst e; exact t2.1
    | succ i => exact ih t2.2 (by simpa using e)

/-! ### what an expression evaluates to, by a relation -/
def EvR (te : L2.TE) (σ : L2.St) (H : Hp) (R : Hp → V → Prop) : Prop := ∀ H1, Ex H H1 → ∀ Q : VK, (∀ v H2, Ex H1 H2 → R H2 v → Q v H2) → te σ H1 Q
abbrev EvD (te : L2.TE) (σ : L2.St) (H : Hp) (d : D) : Prop := EvR te σ H fun H v => Dat H d v
def EvRA (ta : TA) (σ : L2.St) (H : Hp) (R : Hp → List V → Prop) : Prop := ∀ H1, Ex H H1 → ∀ Q : List V → Hp → Prop, (∀ vs H2, Ex H1 H2 → R H2 vs → Q vs H2) → ta σ H1 Q
abbrev EvDA (ta : TA) (σ : L2.St) (H : Hp) (ds : List D) : Prop := EvRA ta σ H fun H vs => DatL H ds vs

section
variable {K : PySem.W.Frag} {σ : L2.St} {H H' : Hp} {ta tb te tx : L2.TE} {t u : TT} {x y z v : V} {d d' : D} {ds : List D}
theorem EvR.mono {R : Hp → V → Prop} (e : Ex H H') (h : EvR te σ H R) : EvR te σ H' R := fun H1 a Q q => h H1 (e.trans a) Q q
theorem EvRA.mono {ta : TA} {R : Hp → List V → Prop} (e : Ex H H') (h : EvRA ta σ H R) : EvRA ta σ H' R := fun H1 a Q q => h H1 (e.trans a) Q q
theorem EvR.imp {R R' : Hp → V → Prop} (h : EvR te σ H R) (k : ∀ H' v, Ex H H' → R H' v → R' H' v) : EvR te σ H R' := fun H1 e Q q => h H1 e Q fun v H2 e2 r => q v H2 e2 (k H2 v (e.trans e2) r)
/-- an int, a text, a truth value, None by value -/
theorem ev_i {i : Int} (h : EvD te σ H (.int i)) : Ev te σ H (.int i) := fun H1 e Q q => h H1 e Q fun v H2 e2 hv => by
  have : v = .int i := hv
  subst this
  exact q H2 e2
theorem ev_b {b : Bool} (h : EvD te σ H (.bl b)) : Ev te σ H (.bl b) := fun H1 e Q q => h H1 e Q fun v H2 e2 hv => by
  have : v = .bl b := hv
  subst this
  exact q H2 e2
theorem ev_s {b : Str} (h : EvD te σ H (.str b)) : Ev te σ H (.str b) := fun H1 e Q q => h H1 e Q fun v H2 e2 hv => by
  have : v = .str b := hv
  subst this
  exact q H2 e2
theorem ev_n (h : EvD te σ H .non) : Ev te σ H .non := fun H1 e Q q => h H1 e Q fun v H2 e2 hv => by
  have : v = .non := hv
  subst this
  exact q H2 e2
theorem er_ev {R : Hp → V → Prop} (h : Ev te σ H v) (k : ∀ H', Ex H H' → R H' v) : EvR te σ H R := fun H1 e Q q => h H1 e Q fun H2 e2 => q v H2 e2 (k H2 (e.trans e2))
theorem ed_i {i : Int} (h : Ev te σ H (.int i)) : EvD te σ H (.int i) := er_ev h fun _ _ => rfl
theorem ed_b {b : Bool} (h : Ev te σ H (.bl b)) : EvD te σ H (.bl b) := er_ev h fun _ _ => rfl
theorem ed_s {b : Str} (h : Ev te σ H (.str b)) : EvD te σ H (.str b) := er_ev h fun _ _ => rfl
theorem ed_n (h : Ev te σ H .non) : EvD te σ H .non := er_ev h fun _ _ => rfl
/-- an object that is known -/
theorem ed_ev (h : Ev te σ H v) (k : Dat H d v) : EvD te σ H d := er_ev h fun _ e => k.ex e
theorem ed_var {i : Nat} (h : σ[i]? = some (some v)) (k : Dat H d v) : EvD (tVar i) σ H d := ed_ev (ev_var h) k
theorem ed_ci {i : Int} : EvD (tC (.int i)) σ H (.int i) := ed_i ev_c
theorem ed_cs {i : Str} : EvD (tC (.str i)) σ H (.str i) := ed_s ev_c
theorem ed_cb {i : Bool} : EvD (tC (.bl i)) σ H (.bl i) := ed_b ev_c
theorem ed_cn : EvD (tC .non) σ H .non := ed_n ev_c
theorem ea_d {vs : List V} {ta : TA} (h : EvA ta σ H vs) (k : DatL H ds vs) : EvDA ta σ H ds := fun H1 e Q q => h H1 e Q fun H2 e2 => q vs H2 e2 (k.ex (e.trans e2))
theorem eda_nil : EvDA tNil σ H [] := fun H1 _ _ q => q [] H1 (Ex.refl H1) rfl
theorem eda_cons {tr : TA} (h : EvD ta σ H d) (k : EvDA tr σ H ds) : EvDA (tCons ta tr) σ H (d :: ds) := fun H1 e Q q =>
  h H1 e _ fun v H2 e2 hv => k H2 (e.trans e2) _ fun vs H3 e3 hvs => q _ H3 (e2.trans e3) ⟨v, vs, rfl, hv.ex e3, hvs⟩
theorem era_nil : EvRA tNil σ H fun _ vs => vs = [] := fun H1 _ _ q => q [] H1 (Ex.refl H1) rfl
theorem era_cons {tr : TA} {R : Hp → V → Prop} {R' : Hp → List V → Prop} (h : EvR ta σ H R) (m : ∀ H1 H2 v, Ex H1 H2 → R H1 v → R H2 v) (k : EvRA tr σ H R') :
    EvRA (tCons ta tr) σ H fun H vs => ∃ v r, vs = v :: r ∧ R H v ∧ R' H r := fun H1 e Q q =>
  h H1 e _ fun v H2 e2 hv => k H2 (e.trans e2) _ fun vs H3 e3 hvs => q _ H3 (e2.trans e3) ⟨v, vs, rfl, m _ _ _ e3 hv, hvs⟩

/-! ### operators -/
theorem ed_I0 {g : Int → Int → Int} {i j : Int} (ha : EvD ta σ H (.int i)) (hb : EvD tb σ H (.int j)) : EvD (tOp (rI0 fun i j => .int (g i j)) ta tb) σ H (.int (g i j)) := ed_i (ev_op (ev_i ha) (ev_i hb) rv_I0)
theorem ed_I {C : Int → Int → Prop} {g : Int → Int → Int} {i j : Int} (ha : EvD ta σ H (.int i)) (hb : EvD tb σ H (.int j)) (hc : C i j) : EvD (tOp (rI C fun i j => .int (g i j)) ta tb) σ H (.int (g i j)) := ed_i (ev_op (ev_i ha) (ev_i hb) (rv_I hc))
theorem ed_B0 {g : Int → Int → Bool} {i j : Int} (ha : EvD ta σ H (.int i)) (hb : EvD tb σ H (.int j)) : EvD (tOp (rI0 fun i j => .bl (g i j)) ta tb) σ H (.bl (g i j)) := ed_b (ev_op (ev_i ha) (ev_i hb) rv_I0)
theorem dint {i j : Int} : decide (V.int i = V.int j) = decide (i = j) := by
  rw [dec_int, Bool.beq_eq_decide_eq]
theorem dstr {i j : Str} : decide (V.str i = V.str j) = decide (i = j) := by
  rw [dec_str, Bool.beq_eq_decide_eq]
theorem ed_eqI {i j : Int} (ha : EvD ta σ H (.int i)) (hb : EvD tb σ H (.int j)) : EvD (tOp rEq ta tb) σ H (.bl (decide (i = j))) := by
  have h : Ev (tOp rEq ta tb) σ H (.bl (decide (V.int i = V.int j))) := ev_op (ev_i ha) (ev_i hb) (rv_eq rfl)
  rw [dint] at h
  exact ed_b h
theorem ed_neI {i j : Int} (ha : EvD ta σ H (.int i)) (hb : EvD tb σ H (.int j)) : EvD (tOp rNe ta tb) σ H (.bl (!decide (i = j))) := by
  have h : Ev (tOp rNe ta tb) σ H (.bl (!decide (V.int i = V.int j))) := ev_op (ev_i ha) (ev_i hb) (rv_ne rfl)
  rw [dint] at h
  exact ed_b h
theorem ed_eqS {i j : Str} (ha : EvD ta σ H (.str i)) (hb : EvD tb σ H (.str j)) : EvD (tOp rEq ta tb) σ H (.bl (decide (i = j))) := by
  have h : Ev (tOp rEq ta tb) σ H (.bl (decide (V.str i = V.str j))) := ev_op (ev_s ha) (ev_s hb) (rv_eq rfl)
  rw [dstr] at h
  exact ed_b h
theorem ed_neS {i j : Str} (ha : EvD ta σ H (.str i)) (hb : EvD tb σ H (.str j)) : EvD (tOp rNe ta tb) σ H (.bl (!decide (i = j))) := by
  have h : Ev (tOp rNe ta tb) σ H (.bl (!decide (V.str i = V.str j))) := ev_op (ev_s ha) (ev_s hb) (rv_ne rfl)
  rw [dstr] at h
  exact ed_b h
/-- x is None -/
theorem ed_isN (ha : Ev ta σ H x) : EvD (tOp (fun x y H Q => y = .non ∧ Q (.bl (decide (x = .non))) H) ta (tC .non)) σ H (.bl (decide (x = .non))) :=
  ed_b (ev_op ha ev_c (rv_val fun _ _ _ q => ⟨rfl, q⟩))
theorem ed_notN (ha : Ev ta σ H x) : EvD (tOp (fun x y H Q => y = .non ∧ Q (.bl (!decide (x = .non))) H) ta (tC .non)) σ H (.bl (!decide (x = .non))) :=
  ed_b (ev_op ha ev_c (rv_val fun _ _ _ q => ⟨rfl, q⟩))
theorem at_get {α : Type} {xs : List α} {i : Int} {j : Nat} {a : α} (e : i = (j : Int)) (h : xs[j]? = some a) : atI xs i = some a := by
  subst e
  exact atI_nat h
/-- a tuple's item, a list's item -/
theorem ed_ixT {i : Int} {j : Nat} (ha : EvD ta σ H (.tup ds)) (hb : EvD tb σ H (.int i)) (e : i = (j : Int)) (h : ds[j]? = some d) : EvD (tOp (rIxT K) ta tb) σ H d := fun H1 e1 Q q =>
  ha H1 e1 _ fun v H2 e2 ⟨a, vs, ev, hv, hd⟩ => ev_i hb H2 (e1.trans e2) _ fun H3 e3 => by
    obtain ⟨u, hu, du⟩ := hd.get h
    exact ⟨a, vs, i, u, ev, rfl, SqT.of (e3 a _ hv), at_get e hu, q u H3 (e2.trans e3) (du.ex e3)⟩
theorem ed_ixL {i : Int} {j : Nat} (ha : EvD ta σ H (.lst ds)) (hb : EvD tb σ H (.int i)) (e : i = (j : Int)) (h : ds[j]? = some d) : EvD (tOp (rIxL K) ta tb) σ H d := fun H1 e1 Q q =>
  ha H1 e1 _ fun v H2 e2 ⟨a, vs, ev, hv, hd⟩ => ev_i hb H2 (e1.trans e2) _ fun H3 e3 => by
    obtain ⟨u, hu, du⟩ := hd.get h
    exact ⟨a, vs, i, u, ev, rfl, SqL.of (e3 a _ hv), at_get e hu, q u H3 (e2.trans e3) (du.ex e3)⟩
/-- displays -/
theorem ed_tup {ta : TA} (h : EvDA ta σ H ds) (hl : ds.length ≤ 100000) : EvD (tTup ta) σ H (.tup ds) := fun H1 e Q q =>
  h H1 e _ fun vs H2 e2 hd => ⟨sz_of (by rw [hd.length]; exact hl), fun p hp => q _ _ (e2.trans (Ex.new hp)) (Dat.tup upd_same (hd.ex (Ex.new hp)))⟩
theorem ed_lst {ta : TA} (h : EvDA ta σ H ds) (hl : ds.length ≤ 100000) : EvD (tLst ta) σ H (.lst ds) := fun H1 e Q q =>
  h H1 e _ fun vs H2 e2 hd => ⟨sz_of (by rw [hd.length]; exact hl), fun p hp => q _ _ (e2.trans (Ex.new hp)) (Dat.lst upd_same (hd.ex (Ex.new hp)))⟩
/-- a new list, which nothing else knows -/
def EvN (te : L2.TE) (σ : L2.St) (H : Hp) (ds : List D) : Prop := ∀ H1, Ex H H1 → ∀ Q : VK, (∀ p vs H2, H1 p = none → Ex H1 H2 → H2 p = some (.lst vs) → DatL H2 ds vs → Q (.ref p) H2) → te σ H1 Q
theorem EvN.toD (h : EvN te σ H ds) : EvD te σ H (.lst ds) := fun H1 e Q q => h H1 e Q fun p vs H2 _ e2 h2 hd => q _ H2 e2 (Dat.lst h2 hd)
theorem EvN.is {es : List D} (h : EvN te σ H ds) (e : ds = es) : EvN te σ H es := e ▸ h
theorem en_lst {ta : TA} (h : EvDA ta σ H ds) (hl : ds.length ≤ 100000) : EvN (tLst ta) σ H ds := fun H1 e Q q =>
  h H1 e _ fun vs H2 e2 hd => ⟨sz_of (by rw [hd.length]; exact hl), fun p hp => q p vs _ (fresh_back e2 hp) (e2.trans (Ex.new hp)) upd_same (hd.ex (Ex.new hp))⟩
theorem en_listL (h : EvD ta σ H (.lst ds)) : EvN (tCB (rListS K) (tCons ta tNil)) σ H ds := fun H1 e Q q =>
  h H1 e _ fun v H2 e2 ⟨a, vs, ev, hv, hd⟩ => ⟨a, vs, by rw [ev], .inl (SqL.of hv), fun l hl => q l vs _ (fresh_back e2 hl) (e2.trans (Ex.new hl)) upd_same (hd.ex (Ex.new hl))⟩
/-- len of a tuple, of a list -/
theorem ed_lenT (h : EvD ta σ H (.tup ds)) : EvD (tCB (rLenS K) (tCons ta tNil)) σ H (.int (ds.length : Int)) := fun H1 e Q q =>
  h H1 e _ fun v H2 e2 ⟨a, vs, ev, hv, hd⟩ => ⟨a, vs, by rw [ev], .inr (SqT.of hv), q _ H2 e2 (by rw [hd.length]; rfl)⟩
theorem ed_lenL (h : EvD ta σ H (.lst ds)) : EvD (tCB (rLenS K) (tCons ta tNil)) σ H (.int (ds.length : Int)) := fun H1 e Q q =>
  h H1 e _ fun v H2 e2 ⟨a, vs, ev, hv, hd⟩ => ⟨a, vs, by rw [ev], .inl (SqL.of hv), q _ H2 e2 (by rw [hd.length]; rfl)⟩
/-- list(..), tuple(..) of a list -/
theorem ed_listL (h : EvD ta σ H (.lst ds)) : EvD (tCB (rListS K) (tCons ta tNil)) σ H (.lst ds) := fun H1 e Q q =>
  h H1 e _ fun v H2 e2 ⟨a, vs, ev, hv, hd⟩ => ⟨a, vs, by rw [ev], .inl (SqL.of hv), fun l hl => q _ _ (e2.trans (Ex.new hl)) (Dat.lst upd_same (hd.ex (Ex.new hl)))⟩
abbrev rTupleOf (K : PySem.W.Frag) : List V → Hp → VK → Prop := fun xs H Q => ∃ p ys, xs = [.ref p] ∧ ((SqL K H p ys ∧ ∀ l, H l = none → Q (.ref l) (upd H l (.tup ys))) ∨ (SqT K H p ys ∧ Q (.ref p) H))
theorem ed_tupleL (h : EvD ta σ H (.lst ds)) : EvD (tCB (rTupleOf K) (tCons ta tNil)) σ H (.tup ds) := fun H1 e Q q =>
  h H1 e _ fun v H2 e2 ⟨a, vs, ev, hv, hd⟩ => ⟨a, vs, by rw [ev], .inl ⟨SqL.of hv, fun l hl => q _ _ (e2.trans (Ex.new hl)) (Dat.tup upd_same (hd.ex (Ex.new hl)))⟩⟩
/-- int(..) of an int, of a truth value -/
abbrev rInt1 : List V → Hp → VK → Prop := fun xs H Q => (∃ i, xs = [.int i] ∧ Q (.int i) H) ∨ ∃ k, xs = [.bl k] ∧ Q (.int (if k then 1 else 0)) H
theorem ed_int {i : Int} (h : EvD ta σ H (.int i)) : EvD (tCB rInt1 (tCons ta tNil)) σ H (.int i) := fun H1 e Q q =>
  h H1 e _ fun v H2 e2 hv => .inl ⟨i, by rw [show v = .int i from hv], q _ H2 e2 rfl⟩
theorem ed_intB {b : Bool} (h : EvD ta σ H (.bl b)) : EvD (tCB rInt1 (tCons ta tNil)) σ H (.int (if b then 1 else 0)) := fun H1 e Q q =>
  h H1 e _ fun v H2 e2 hv => .inr ⟨b, by rw [show v = .bl b from hv], q _ H2 e2 rfl⟩
/-- tests -/
theorem et_b {b : Bool} (h : EvD te σ H (.bl b)) : EvT (tTest te) σ H b := et_test (ev_b h)
theorem et_v {b : Bool} (h : EvD te σ H (.bl b)) : EvT (tB te) σ H b := et_B (ev_b h)
theorem ed_if {b : Bool} (h : EvT t σ H b) (h1 : b = true → EvD ta σ H d) (h2 : b = false → EvD tb σ H d) : EvD (tIf t ta tb) σ H d := fun H1 e Q q => h H1 e _ fun H2 e2 => by
  cases b with
  | true =>
    show ta σ H2 Q
    exact h1 rfl H2 (e.trans e2) Q fun v H3 e3 => q v H3 (e2.trans e3)
  | false =>
    show tb σ H2 Q
    exact h2 rfl H2 (e.trans e2) Q fun v H3 e3 => q v H3 (e2.trans e3)
theorem ed_and {a b : Bool} (h1 : EvD ta σ H (.bl a)) (h2 : a = true → EvD tb σ H (.bl b)) : EvD (tAndV ta tb) σ H (.bl (a && b)) := ed_b (ev_andV (ev_b h1) fun e => ev_b (h2 e))
theorem ed_or {a b : Bool} (h1 : EvD ta σ H (.bl a)) (h2 : a = false → EvD tb σ H (.bl b)) : EvD (tOrV ta tb) σ H (.bl (a || b)) := ed_b (ev_orV (ev_b h1) fun e => ev_b (h2 e))
theorem ed_not {a : Bool} (h1 : EvD ta σ H (.bl a)) : EvD (tNotV ta) σ H (.bl (!a)) := ed_b (ev_notV (ev_b h1))
theorem ed_is {e : D} (h : EvD te σ H d) (q : d = e) : EvD te σ H e := q ▸ h
/-! ### calls -/
theorem er_call {sp : Sp} {E : XK} {ta : TA} {R : Hp → List V → Prop} {R' : Hp → V → Prop} (h : EvRA ta σ H R)
    (hs : ∀ vs H1, Ex H H1 → R H1 vs → ∀ Q : VK, (∀ v H2, Ex H1 H2 → R' H2 v → Q v H2) → sp (vs ++ []) H1 Q E) : EvR (tCall sp [] E ta) σ H R' := fun H1 e Q q =>
  h H1 e _ fun vs H2 e2 r => hs vs H2 (e.trans e2) r Q fun v H3 e3 r3 => q v H3 (e2.trans e3) r3
/-- a def over data: Pre of the arguments, Post of the answer -/
def spR (Pre : List D → Prop) (Post : List D → D → Prop) : Sp := fun vs H Q _ => ∃ ds, DatL H ds vs ∧ Pre ds ∧ ∀ v H' d, Ex H H' → Post ds d → Dat H' d v → Q v H'
theorem ed_call {Pre : List D → Prop} {Post : List D → D → Prop} {E : XK} {ta : TA} (h : EvDA ta σ H ds) (hp : Pre ds) (hq : ∀ d', Post ds d' → d' = d) : EvD (tCall (spR Pre Post) [] E ta) σ H d :=
  er_call h fun vs H1 _ r Q q => ⟨ds, by rw [List.append_nil]; exact r, hp, fun v H2 d' e2 p k => q v H2 e2 (hq d' p ▸ k)⟩

/-! ### statements -/
variable {DD : Ends} {tu tw tz : TS} {g : TG}
theorem s_asgR {i : Nat} {R : Hp → V → Prop} (h : EvR te σ H R) (k : ∀ v H1, Ex H H1 → R H1 v → DD.nx (σ.set i (some v)) H1) : tAsg te (gName i) DD σ H := h H (Ex.refl H) _ fun v H1 e r => k v H1 e r
theorem q_asgR {i : Nat} {R : Hp → V → Prop} (h : EvR te σ H R) (k : ∀ v H1, Ex H H1 → R H1 v → tz DD (σ.set i (some v)) H1) : tSeq (tAsg te (gName i)) tz DD σ H := s_asgR (DD := { DD with nx := tz DD }) h k
theorem s_retR {R : Hp → V → Prop} (h : EvR te σ H R) (k : ∀ v H1, Ex H H1 → R H1 v → DD.rt v H1) : tRet te DD σ H := h H (Ex.refl H) _ fun v H1 e r => k v H1 e r
theorem s_asgN {i : Nat} (h : EvN te σ H ds) (k : ∀ p vs H1, H p = none → Ex H H1 → H1 p = some (.lst vs) → DatL H1 ds vs → DD.nx (σ.set i (some (.ref p))) H1) : tAsg te (gName i) DD σ H := h H (Ex.refl H) _ fun p vs H1 hp e h1 h2 => k p vs H1 hp e h1 h2
theorem q_asgN {i : Nat} (h : EvN te σ H ds) (k : ∀ p vs H1, H p = none → Ex H H1 → H1 p = some (.lst vs) → DatL H1 ds vs → tz DD (σ.set i (some (.ref p))) H1) : tSeq (tAsg te (gName i)) tz DD σ H := s_asgN (DD := { DD with nx := tz DD }) h k
theorem s_retD (h : EvD te σ H d) (k : ∀ v H1, Ex H H1 → Dat H1 d v → DD.rt v H1) : tRet te DD σ H := s_retR h k
/-- a truth value handed back -/
theorem s_retB {b : Bool} (h : EvD te σ H (.bl b)) (k : ∀ H1, Ex H H1 → DD.rt (.bl b) H1) : tRet te DD σ H := s_ret (ev_b h) k
theorem s_retN (h : EvN te σ H ds) (k : ∀ p vs H1, H p = none → Ex H H1 → H1 p = some (.lst vs) → DatL H1 ds vs → DD.rt (.ref p) H1) : tRet te DD σ H := h H (Ex.refl H) _ fun p vs H1 hp e h1 h2 => k p vs H1 hp e h1 h2
/-- l.append(e), e by a relation; l's own list may have gone on meanwhile -/
theorem s_appR {l : Addr} {xs : List V} {R : Hp → V → Prop} (hl : H l = some (.lst xs)) (ha : Ev ta σ H (.ref l)) (h : EvR te σ H R) (hz : xs.length < 100000) (k : ∀ v H1, Ex H H1 → R H1 v → DD.nx σ (upd H1 l (.lst (xs ++ [v])))) :
    tDrop (tBM K "list" rAppend ta (tCons te tNil)) DD σ H := ha H (Ex.refl H) _ fun H1 e1 =>
  ⟨Or.inl ⟨rfl, xs, sq_of (e1 l _ hl)⟩, h H1 e1 _ fun v H2 e2 r => ⟨l, xs, v, rfl, rfl, e2 l _ (e1 l _ hl), sz_lt hz, k v H2 (e1.trans e2) r⟩⟩
theorem q_appR {l : Addr} {xs : List V} {R : Hp → V → Prop} (hl : H l = some (.lst xs)) (ha : Ev ta σ H (.ref l)) (h : EvR te σ H R) (hz : xs.length < 100000) (k : ∀ v H1, Ex H H1 → R H1 v → tz DD σ (upd H1 l (.lst (xs ++ [v])))) :
    tSeq (tDrop (tBM K "list" rAppend ta (tCons te tNil))) tz DD σ H := s_appR (DD := { DD with nx := tz DD }) hl ha h hz k
/-- a for over data: a list, its loop's word by the turn -/
theorem s_forD {tl : L2.TE} (h : EvD tl σ H (.lst ds)) (Pv : Nat → L2.St → Hp → Prop)
    (h0 : ∀ H1, Ex H H1 → Pv 0 σ H1) (a0 : Addr → List V → Prop) (ha0 : ∀ a vs H1, Ex H H1 → H1 a = some (.lst vs) → DatL H1 ds vs → a0 a vs) (hl : ∀ i σ' H' a vs, a0 a vs → Pv i σ' H' → H' a = some (.lst vs))
    (hs : ∀ i d v σ' H', ds[i]? = some d → Pv i σ' H' → Dat H' d v → g v σ' H' fun σ2 H2 => tu { DD with nx := Pv (i + 1), ct := Pv (i + 1), bk := DD.nx } σ2 H2) (hdat : ∀ i σ' H' a vs, a0 a vs → Pv i σ' H' → DatL H' ds vs) (hd : ∀ σ' H', Pv ds.length σ' H' → DD.nx σ' H') :
    tFor (iList K tl) g tu DD σ H :=
  h H (Ex.refl H) _ fun v H1 e ⟨a, vs, ev, hv, hdd⟩ => by
    subst ev
    have A := ha0 a vs H1 e hv hdd
    refine ⟨a, rfl, ⟨vs, SqL.of hv⟩, for_list (xs := vs) Pv (h0 H1 e) (fun i σ' H' _ p => SqL.of (hl i σ' H' a vs A p)) (fun i x σ' H' hi p => ?_) (fun σ' H' p => hd σ' H' (by rw [← hdd.length]; exact p))⟩
    obtain ⟨d, h1, h2⟩ := (hdat i σ' H' a vs A p).getV hi
    exact hs i d x σ' H' h1 p h2
end
end JH
set_option Elab.async false
set_option maxRecDepth 100000
set_option maxHeartbeats 4000000
/-! the mathematics: talks as trees, what they let out -/
namespace JH
open PySem L2

/-- a table of whole numbers as data -/
def mat (m : List (List Int)) : D := .tup (m.map fun r => .tup (r.map .int))
theorem mat_T (m : List (List Int)) : (mat m).T = true := by
  simp only [mat, D.T]
  exact TL_map _ (fun r => by simp only [D.T]; exact TL_ints r) m
/-- n rows of k -/
def Sh (n k : Nat) (m : List (List Int)) : Prop := m.length = n ∧ ∀ r ∈ m, r.length = k
def get2 (m : List (List Int)) (i j : Nat) : Int := (m.getD i []).getD j 0
theorem Sh.row {n k : Nat} {m : List (List Int)} (h : Sh n k m) {i : Nat} (hi : i < n) : ∃ r, m[i]? = some r ∧ r.length = k := by
  have hi' : i < m.length := by rw [h.1]; exact hi
  exact ⟨m[i], List.getElem?_eq_getElem hi', h.2 _ (List.getElem_mem hi')⟩
theorem Sh.cell {n k : Nat} {m : List (List Int)} (h : Sh n k m) {i j : Nat} (hi : i < n) (hj : j < k) : ∃ r, m[i]? = some r ∧ r[j]? = some (get2 m i j) := by
  obtain ⟨r, h1, h2⟩ := h.row hi
  refine ⟨r, h1, ?_⟩
  have hj' : j < r.length := by rw [h2]; exact hj
  have e : m.getD i [] = r := by rw [List.getD_eq_getElem?_getD, h1]; rfl
  rw [List.getElem?_eq_getElem hj']
  unfold get2
  rw [e, List.getD_eq_getElem?_getD, List.getElem?_eq_getElem hj']
  rfl

/-- sizes: inputs and coins of both sides -/
structure Sz where
  X : Nat
  Y : Nat
  c0 : Nat
  c1 : Nat
def Sz.sz (Z : Sz) (side : Nat) : Nat := if side = 0 then Z.X else Z.Y
def Sz.cn (Z : Sz) (side : Nat) : Nat := if side = 0 then Z.c0 else Z.c1
structure Sz.Ok (Z : Sz) : Prop where
  x1 : 1 ≤ Z.X
  x4 : Z.X ≤ 4
  y1 : 1 ≤ Z.Y
  y4 : Z.Y ≤ 4
  r1 : 1 ≤ Z.c0
  r3 : Z.c0 ≤ 3
  s1 : 1 ≤ Z.c1
  s3 : Z.c1 ≤ 3
def pick (side : Nat) {α : Type} (a b : α) : α := if side = 0 then a else b

/-- a tree of two sides -/
inductive Tr where
  | fin (a b : List (List Int))
  | say (side : Nat) (bits : List (List Int)) (f g : Tr)
def Tr.d : Tr → D
  | .fin a b => .tup [.str "end", mat a, mat b]
  | .say side bits f g => .tup [.str "say", .int side, mat bits, f.d, g.d]
theorem Tr.dT : ∀ t : Tr, t.d.T = true
  | .fin a b => by simp [Tr.d, D.T, D.TL, mat_T]
  | .say side bits f g => by simp [Tr.d, D.T, D.TL, mat_T, Tr.dT f, Tr.dT g]
def Tr.dep : Tr → Nat
  | .fin _ _ => 0
  | .say _ _ f g => max f.dep g.dep + 1
/-- as many trees -/
def Tr.num : Tr → Nat
  | .fin _ _ => 1
  | .say _ _ f g => f.num + g.num + 1
theorem Tr.num_le : ∀ t : Tr, t.num + 1 ≤ 2 ^ (t.dep + 1)
  | .fin _ _ => by simp [Tr.num, Tr.dep]
  | .say _ _ f g => by
    have h1 := Tr.num_le f
    have h2 := Tr.num_le g
    have h3 : 2 ^ (f.dep + 1) ≤ 2 ^ (max f.dep g.dep + 1) := Nat.pow_le_pow_right (by decide) (by omega)
    have h4 : 2 ^ (g.dep + 1) ≤ 2 ^ (max f.dep g.dep + 1) := Nat.pow_le_pow_right (by decide) (by omega)
    simp only [Tr.num, Tr.dep]
    rw [Nat.pow_succ]
    omega
def Bits (m : List (List Int)) : Prop := ∀ r ∈ m, ∀ b ∈ r, b = 0 ∨ b = 1
def Tr.WF (Z : Sz) : Tr → Prop
  | .fin a b => Sh Z.X Z.c0 a ∧ Sh Z.Y Z.c1 b
  | .say side bits f g => side < 2 ∧ Sh (Z.sz side) (Z.cn side) bits ∧ Bits bits ∧ Tr.WF Z f ∧ Tr.WF Z g
/-- the bits that are sent, the two answers -/
def Tr.run : Tr → Nat → Nat → Nat → Nat → List Int × (Int × Int)
  | .fin a b, x, y, r, s => ([], (get2 a x r, get2 b y s))
  | .say side bits f g, x, y, r, s =>
    let b := get2 bits (pick side x y) (pick side r s)
    let q := if b = 0 then f.run x y r s else g.run x y r s
    (b :: q.1, q.2)
def bitsD (l : List Int) : D := .tup (l.map .int)
theorem bitsD_T (l : List Int) : (bitsD l).T = true := by simp only [bitsD, D.T]; exact TL_ints l
def talkD (Z : Sz) (t : Tr) : D := .tup [.str "talk", .int Z.c0, .int Z.c1, t.d]
theorem talkD_T (Z : Sz) (t : Tr) : (talkD Z t).T = true := by simp [talkD, D.T, D.TL, Tr.dT]
theorem get2_bit {m : List (List Int)} (h : Bits m) {n k i j : Nat} (s : Sh n k m) (hi : i < n) (hj : j < k) : get2 m i j = 0 ∨ get2 m i j = 1 := by
  obtain ⟨r, h1, h2⟩ := s.cell hi hj
  exact h r (List.mem_of_getElem? h1) _ (List.mem_of_getElem? h2)
theorem Tr.run_bits : ∀ {Z : Sz} {t : Tr} {x y r s : Nat}, t.WF Z → x < Z.X → y < Z.Y → r < Z.c0 → s < Z.c1 → (t.run x y r s).1.length ≤ t.dep ∧ ∀ b ∈ (t.run x y r s).1, b = 0 ∨ b = 1
  | Z, .fin a b, x, y, r, s, _, _, _, _, _ => by simp [Tr.run]
  | Z, .say side bits f g, x, y, r, s, h, hx, hy, hr, hs => by
    obtain ⟨h1, h2, h3, h4, h5⟩ := h
    have hf := Tr.run_bits h4 hx hy hr hs
    have hg := Tr.run_bits h5 hx hy hr hs
    have hp : pick side x y < Z.sz side ∧ pick side r s < Z.cn side := by
      unfold pick Sz.sz Sz.cn
      by_cases e : side = 0
      · simp only [if_pos e]; exact ⟨hx, hr⟩
      · simp only [if_neg e]; exact ⟨hy, hs⟩
    have hb := get2_bit h3 h2 hp.1 hp.2
    simp only [Tr.run, Tr.dep]
    split
    · refine ⟨by simp only [List.length_cons]; omega, fun b hb' => ?_⟩
      rcases List.mem_cons.mp hb' with e | e
      · rw [e]; exact hb
      · exact hf.2 b e
    · refine ⟨by simp only [List.length_cons]; omega, fun b hb' => ?_⟩
      rcases List.mem_cons.mp hb' with e | e
      · rw [e]; exact hb
      · exact hg.2 b e
end JH
set_option Elab.async false
set_option maxRecDepth 100000
set_option maxHeartbeats 4000000
/-! calls of the program's own defs by what they promise; names in short -/
namespace JH
open PySem PySem.Spec PyProof.Rows L2 Evl

/-- a def of the program, as a caller needs it -/
structure Fk (P : Program) (w : World) (K : PySem.W.Frag) (mg : Str → Option Value) (base : Heap) (x : Str) (ps : List Str) (k : Nat) (sp : Sp) : Prop where
  ex : ∃ f fd, FnOk P w K mg base CX0 k f fd ps sp ∧ mg x = some (.ref f) ∧ PySem.W.keepIn K (.ref f) = true ∧ Binds K fd ps []
/-- a method of the class at C -/
structure Fm (P : Program) (w : World) (K : PySem.W.Frag) (mg : Str → Option Value) (base : Heap) (C : Addr) (m : Str) (ps : List Str) (k : Nat) (sp : Sp) : Prop where
  cls : Cls K C
  ex : ∃ f fd, FnOk P w K mg base CX0 k f fd ps sp ∧ Meth K C m f ∧ Binds K fd ps []
/-- a class that is called -/
structure Fc (P : Program) (w : World) (K : PySem.W.Frag) (mg : Str → Option Value) (base : Heap) (x : Str) (C : Addr) (ps : List Str) (k : Nat) (sp : Sp) : Prop where
  ex : ∃ f fd, FnOk P w K mg base CX0 k f fd ps sp ∧ Mk K C f ∧ mg x = some (.ref C) ∧ Binds K fd ps []
section
variable {X : Cx} {x m : Str} {ps : List Str} {k j : Nat} {sp : Sp} {C : Addr} {e o : Expr} {es : List Expr} {t : TA} {ta : L2.TE} {p pos apos : Pos}
theorem pe_callF (c : Fk X.prog X.w X.K X.mg X.base x ps k sp) (hr : Room j X.A) (hkj : k ≤ j) (ha : PA X (e :: es) t) (hg : Gl X x := by rfl)
    (hdb : (x == ("__debug__" : Str)) = false := by decide) (he : starEach (e :: es) X.env = (false, eval e X.env) :: starEach es X.env := by rfl) (hpl : (backTo pos (starEach es X.env)).any (·.1) = false := by rfl) :
    PE X (.Call (.Name x p) (e :: es) [] pos) (tCall sp [] E0 t) := by
  obtain ⟨f, fd, F, hm, hk, b⟩ := c.ex
  exact pe_call F (hr.mono hkj) hg hm hk b .nil pass0 ha hdb he hpl
theorem pe_methF {pl : Sem Bool} (c : Fm X.prog X.w X.K X.mg X.base C m ps k sp) (hr : Room j X.A) (hkj : k ≤ j) (he : PE X o ta) (ha : PA X (e :: es) t)
    (hst : starEach (e :: es) X.env = (false, eval e X.env) :: starEach es X.env := by rfl) (hpl : (backTo pos (starEach es X.env)).any (·.1) = false := by rfl)
    (ht : eval (.Call (.Attribute o m apos) (e :: es) [] pos) X.env = (do
      let ov ← eval o X.env
      standAt apos.atName
      let (f, first) ← holding [ov] (getMethod ov m pl)
      callWith pos f first (backTo pos (starEach (e :: es) X.env)) (backToKw pos (keywordEach [] X.env))) := by rfl) :
    PE X (.Call (.Attribute o m apos) (e :: es) [] pos) (tMeth C m sp [] E0 ta t) := by
  obtain ⟨f, fd, F, hm, b⟩ := c.ex
  exact pe_meth (pl := pl) he c.cls hm F (hr.mono hkj) b .nil pass0 ha hst hpl ht
theorem pe_methF0 {pl : Sem Bool} (c : Fm X.prog X.w X.K X.mg X.base C m ps k sp) (hr : Room j X.A) (hkj : k ≤ j) (he : PE X o ta)
    (ht : eval (.Call (.Attribute o m apos) [] [] pos) X.env = (do
      let ov ← eval o X.env
      standAt apos.atName
      let (f, first) ← holding [ov] (getMethod ov m pl)
      callWith pos f first (backTo pos (starEach [] X.env)) (backToKw pos (keywordEach [] X.env))) := by rfl) :
    PE X (.Call (.Attribute o m apos) [] [] pos) (tMeth C m sp [] E0 ta tNil) := by
  obtain ⟨f, fd, F, hm, b⟩ := c.ex
  exact pe_meth0 (pl := pl) he c.cls hm F (hr.mono hkj) b .nil pass0 ht
theorem pe_makeF (c : Fc X.prog X.w X.K X.mg X.base x C ps k sp) (hr : Room j X.A) (hkj : k + 1 ≤ j) (ha : PA X (e :: es) t) (hg : Gl X x := by rfl)
    (hdb : (x == ("__debug__" : Str)) = false := by decide) (he : starEach (e :: es) X.env = (false, eval e X.env) :: starEach es X.env := by rfl) (hpl : (backTo pos (starEach es X.env)).any (·.1) = false := by rfl) :
    PE X (.Call (.Name x p) (e :: es) [] pos) (tMake C sp [] E0 t) := by
  obtain ⟨f, fd, F, hM, hm, b⟩ := c.ex
  exact pe_make hM F (hr.mono hkj) hg hm b .nil pass0 ha hdb he hpl
/-- a name's store, by its slot -/
theorem psv (i : Nat) {te : L2.TE} {pos' : Pos} (hN : X.N.Nodup) (he : PE X e te) (hi : X.N[i]? = some x := by rfl) (hx : Loc X.env.scope x := by first | exact Or.inl rfl | exact Or.inr rfl)
    (hs : swapsWith e (some (.Name x pos')) pos.line X.env = pure false := by rfl) (hf : X.fn x = true ∨ X.env.scope.names.lookup x = some .local := by first | exact .inl rfl | exact .inr rfl) :
    PS X (.Assign [.Name x pos'] e pos) (tAsg te (gName i)) := ps_set hN hi hx he hs hf
theorem pgv (i : Nat) (hN : X.N.Nodup) (hi : X.N[i]? = some x := by rfl) (hx : Loc X.env.scope x := by first | exact Or.inl rfl | exact Or.inr rfl)
    (hf : X.fn x = true ∨ X.env.scope.names.lookup x = some .local := by first | exact .inl rfl | exact .inr rfl) : PG X (.Name x pos) (gName i) := pg_name hN hi hx hf
theorem pe_globI {i : Int} (h : ∃ t, X.mg x = some (.int i t)) (hg : Gl X x := by rfl) (hd : (x == ("__debug__" : Str)) = false := by decide) : PE X (.Name x pos) (tC (.int i)) :=
  let ⟨t, e⟩ := h
  pe_glob hg e ⟨t, rfl⟩ hd
end
/-- a if c else b, as a test -/
def tIfT (c t u : TT) : TT := fun σ H Q => c σ H fun b H1 => if b = true then t σ H1 Q else u σ H1 Q
theorem pt_ifExp {X : Cx} {c a b : Expr} {tc t u : TT} {pos : Pos} (hc : PT X c tc) (ha : PT X a t) (hb : PT X b u) : PT X (.IfExp c a b pos) (tIfT tc t u) := by
  refine ⟨fun pins s σ H Q I h => ?_⟩
  refine isTrue_IfExp (thn (hc.run pins s σ H _ I h) fun d s1 ⟨H1, I1, q1⟩ => ?_)
  cases d with
  | true => exact ha.run pins s1 σ H1 Q I1 q1
  | false => exact hb.run pins s1 σ H1 Q I1 q1
theorem et_ifT {c t u : TT} {σ : L2.St} {H : Hp} {b r : Bool} (h : EvT c σ H b) (h1 : b = true → EvT t σ H r) (h2 : b = false → EvT u σ H r) : EvT (tIfT c t u) σ H r := fun H1 e Q q => h H1 e _ fun H2 e2 => by
  cases b with
  | true =>
    show t σ H2 Q
    exact h1 rfl H2 (e.trans e2) Q fun H3 e3 => q H3 (e2.trans e3)
  | false =>
    show u σ H2 Q
    exact h2 rfl H2 (e.trans e2) Q fun H3 e3 => q H3 (e2.trans e3)
/-! ### the rules that speak of the written part, the part named -/
section
variable {X : Cx} {K : PySem.W.Frag} {e o : Expr} {es : List Expr} {t : TA} {te ta : L2.TE} {pos apos cpos : Pos} {f : Str} {tg : Expr}
theorem k_len (hK : X.K = K := by rfl) : CallR X (.builtin "len") (rLenS K) := by subst hK; exact call_len_seq
theorem k_list (hK : X.K = K := by rfl) : CallR X (.type "list") (rListS K) := by subst hK; exact call_list_of
theorem k_tuple (hK : X.K = K := by rfl) : CallR X (.type "tuple") (rTupleOf K) := by subst hK; exact call_tuple_of
theorem k_isi (hK : X.K = K := by rfl) : CallR X (.builtin "isinstance") (rIsi K) := by subst hK; exact call_isi
theorem k_isiT (hK : X.K = K := by rfl) : CallR X (.builtin "isinstance") (rIsiT K) := by subst hK; exact call_isiT
theorem k_all (hc : X.calm = true) (hK : X.K = K := by rfl) : CallR X (.builtin "all") (rAll K) := by subst hK; exact cr_all hc
theorem k_ixL (hK : X.K = K := by rfl) : IxR X (rIxL K) := by subst hK; exact ix_list
theorem k_ixT (hK : X.K = K := by rfl) : IxR X (rIxT K) := by subst hK; exact ix_tup
theorem k_slL (hK : X.K = K := by rfl) : SlR X (rSlL K) := by subst hK; exact sl_list
theorem k_in (hK : X.K = K := by rfl) : OpR X (compareOp .In) (rIn K false) := by subst hK; exact op_in_seq
theorem k_notIn (hK : X.K = K := by rfl) : OpR X (compareOp .NotIn) (rIn K true) := by subst hK; exact op_notIn_seq
theorem k_ltT (hu : X.A.units < cLine) (hK : X.K = K := by rfl) : OpR X (compareOp .Lt) (rLtT K) := by subst hK; exact op_ltT hu
theorem k_catA (hK : X.K = K := by rfl) : OpR X (binaryOp .Add) (rCatA K) := by subst hK; exact op_catA
theorem k_pL (hl : PE X e te) (hK : X.K = K := by rfl) : PI X tg e (iList K te) := by subst hK; exact pi_list hl
theorem k_pT (hl : PE X e te) (hK : X.K = K := by rfl) : PI X tg e (iTup K te) := by subst hK; exact pi_tup hl
theorem k_fld (he : PE X e ta) (hb : attributeBase e f X.env (eval e X.env) = eval e X.env := by rfl) (hK : X.K = K := by rfl) : PE X (.Attribute e f pos) (tFld K ta f) := by subst hK; exact pe_fld he hb
theorem k_append (ho : PE X o te) (ha : PA X (e :: es) t) (hK : X.K = K := by rfl) (hbase : attributeBase o "append" X.env (eval o X.env) = eval o X.env := by rfl)
    (hfew : ((backTo cpos (starEach (e :: es) X.env)).all (fun x => !x.1) && (backToKw cpos (keywordEach [] X.env)).all (fun x => x.1.isSome)
      && decide ((e :: es).length + ([] : List Keyword).length + (if ([] : List Keyword).isEmpty then 0 else 1) < 30)) = true := by rfl)
    (hline : (apos.endLine == cpos.line) = true := by rfl) (hs : starEach (e :: es) X.env = (false, eval e X.env) :: starEach es X.env := by rfl) (hplain : (backTo cpos (starEach es X.env)).any (·.1) = false := by rfl) :
    PE X (.Call (.Attribute o "append" apos) (e :: es) [] cpos) (tBM K "list" rAppend te t) := by
  subst hK
  exact pe_bm PySem.F.plainAttrs_list PySem.F.slot_list_append PySem.F.type_list_append mt_append ho ha hbase hfew hline hs hplain
theorem k_popAt (ho : PE X o te) (ha : PA X (e :: es) t) (hK : X.K = K := by rfl) (hbase : attributeBase o "pop" X.env (eval o X.env) = eval o X.env := by rfl)
    (hfew : ((backTo cpos (starEach (e :: es) X.env)).all (fun x => !x.1) && (backToKw cpos (keywordEach [] X.env)).all (fun x => x.1.isSome)
      && decide ((e :: es).length + ([] : List Keyword).length + (if ([] : List Keyword).isEmpty then 0 else 1) < 30)) = true := by rfl)
    (hline : (apos.endLine == cpos.line) = true := by rfl) (hs : starEach (e :: es) X.env = (false, eval e X.env) :: starEach es X.env := by rfl) (hplain : (backTo cpos (starEach es X.env)).any (·.1) = false := by rfl) :
    PE X (.Call (.Attribute o "pop" apos) (e :: es) [] cpos) (tBM K "list" rPopAt te t) := by
  subst hK
  exact pe_bm PySem.F.plainAttrs_list PySem.F.slot_list_pop PySem.F.type_list_pop mt_popAt ho ha hbase hfew hline hs hplain
theorem k_pop (ho : PE X o te) (hK : X.K = K := by rfl) (hbase : attributeBase o "pop" X.env (eval o X.env) = eval o X.env := by rfl) (hline : (apos.endLine == cpos.line) = true := by rfl) :
    PE X (.Call (.Attribute o "pop" apos) [] [] cpos) (tBM0 K "list" rPop te) := by
  subst hK
  exact pe_bm0 PySem.F.plainAttrs_list PySem.F.slot_list_pop PySem.F.type_list_pop mt_pop ho hbase hline
theorem k_gtup {es : List Expr} {k n : Nat} {t : TGs} (hc : X.calm = true) (h : PGs X es t) (hK : X.K = K := by rfl)
    (hn : (assignEach es X.env).length = n := by rfl) (hst : (assignEach es X.env).findIdx? (·.1) = none := by rfl) : PG X (.Tuple es k pos) (gTup K n t) := by subst hK; exact pg_tup hc h hn hst
end
/-- what the top leaves of built-in names and constants -/
structure Txt (mg : Str → Option Value) : Prop where
  isinstance : mg "isinstance" = none
  int : mg "int" = none
  bool : mg "bool" = none
  str : mg "str" = none
  tuple : mg "tuple" = none
  list : mg "list" = none
  all : mg "all" = none
  len : mg "len" = none
  range : mg "range" = none
  enumerate : mg "enumerate" = none
  sorted : mg "sorted" = none
  max : mg "max" = none
  abs : mg "abs" = none
  MOST_LINES : ∃ t, mg "MOST_LINES" = some (.int 100 t)
  MOST_COINS : ∃ t, mg "MOST_COINS" = some (.int 256 t)
  MOST_DEPTH : ∃ t, mg "MOST_DEPTH" = some (.int 250 t)
  MOST_TREES : ∃ t, mg "MOST_TREES" = some (.int 40000 t)
  MOST_PEOPLE_TREES : ∃ t, mg "MOST_PEOPLE_TREES" = some (.int 200 t)
theorem bt_isinstance : bootBuiltins "isinstance" = some (.builtin "isinstance") := by decide +kernel
theorem bt_all : bootBuiltins "all" = some (.builtin "all") := by decide +kernel
theorem bt_len : bootBuiltins "len" = some (.builtin "len") := by decide +kernel
theorem bt_sorted : bootBuiltins "sorted" = some (.builtin "sorted") := by decide +kernel
theorem bt_max : bootBuiltins "max" = some (.builtin "max") := by decide +kernel
theorem bt_abs : bootBuiltins "abs" = some (.builtin "abs") := by decide +kernel
theorem bt_int : bootBuiltins "int" = some (.type "int") := by decide +kernel
theorem bt_bool : bootBuiltins "bool" = some (.type "bool") := by decide +kernel
theorem bt_str : bootBuiltins "str" = some (.type "str") := by decide +kernel
theorem bt_tuple : bootBuiltins "tuple" = some (.type "tuple") := by decide +kernel
theorem bt_list : bootBuiltins "list" = some (.type "list") := by decide +kernel
/-! ### isinstance of data -/
theorem kb_ii : kitB "int" "int" = some true := by decide +kernel
theorem kb_ib : kitB "int" "bool" = some false := by decide +kernel
theorem kb_it : kitB "int" "tuple" = some false := by decide +kernel
theorem kb_is : kitB "int" "str" = some false := by decide +kernel
theorem kb_tt : kitB "tuple" "tuple" = some true := by decide +kernel
theorem kb_tl : kitB "tuple" "list" = some false := by decide +kernel
theorem kb_ss : kitB "str" "str" = some true := by decide +kernel
theorem kb_st : kitB "str" "tuple" = some false := by decide +kernel
def tyD : D → String
  | .non => "NoneType"
  | .bl _ => "bool"
  | .int _ => "int"
  | .str _ => "str"
  | .tup _ => "tuple"
  | .lst _ => "list"
theorem tyx_d {K : PySem.W.Frag} {H : Hp} {v : V} : ∀ {d : D}, Dat H d v → TyX K H v (.type (tyD d))
  | .non, h => by
    have : v = .non := h
    subst this
    exact .base .non
  | .bl b, h => by
    have : v = .bl b := h
    subst this
    exact .base (.bl b)
  | .int i, h => by
    have : v = .int i := h
    subst this
    exact .base (.int i)
  | .str s, h => by
    have : v = .str s := h
    subst this
    exact .base (.str s)
  | .tup ds, h => by
    obtain ⟨a, vs, rfl, h1, _⟩ := h
    exact .base (.tup h1)
  | .lst ds, h => by
    obtain ⟨a, vs, rfl, h1, _⟩ := h
    exact .base (.lst h1)
section
variable {K : PySem.W.Frag} {σ : L2.St} {H : Hp} {ta : L2.TE} {d : D}
theorem ed_isi {n : String} {b : Bool} (h : EvD ta σ H d) (e : kitB (tyD d) n = some b) : EvD (tCB (rIsi K) (tCons ta (tCons (tC (.ty n)) tNil))) σ H (.bl b) := fun H1 e1 Q q =>
  h H1 e1 _ fun v H2 e2 hv => ⟨v, .ty n, .type (tyD d), .type n, b, rfl, .ty n, tyx_d hv, kit_ty e, q _ H2 e2 rfl⟩
theorem ed_isiT {n m : String} {b c : Bool} (h : EvD ta σ H d) (e : kitB (tyD d) n = some b) (e' : kitB (tyD d) m = some c) : EvD (tCB (rIsiT K) (tCons ta (tCons (tTup (tCons (tC (.ty n)) (tCons (tC (.ty m)) tNil))) tNil))) σ H (.bl (b || c)) := fun H1 e1 Q q =>
  h H1 e1 _ fun v H2 e2 hv => ⟨by show 2 ≤ sizeLine; decide, fun p hp => ⟨v, p, [.ty n, .ty m], .type (tyD d), [.type n, .type m], b || c, rfl, upd_same, .cons (.ty n) (.cons (.ty m) .nil), tyx_d (hv.ex (Ex.new hp)),
    kitAny_cons (kit_ty e) (fun hb => by
      subst hb
      exact kitAny_cons (kit_ty e') (fun hc => by subst hc; exact kitAny_nil) (fun hc => by subst hc; rfl)) (fun hb => by subst hb; rfl), q _ _ (e2.trans (Ex.new hp)) rfl⟩⟩
end
end JH
set_option Elab.async false
set_option maxRecDepth 100000
set_option maxHeartbeats 4000000
/-! loops and comprehensions over data -/
namespace JH
open PySem L2 Evl

section
variable {H : Hp}
theorem datL1 {a : D} {vs : List V} (h : DatL H [a] vs) : ∃ u, vs = [u] ∧ Dat H a u := by
  obtain ⟨v, r, rfl, hv, hr⟩ := h
  cases (show r = [] from hr)
  exact ⟨v, rfl, hv⟩
theorem datL2 {a b : D} {vs : List V} (h : DatL H [a, b] vs) : ∃ u v, vs = [u, v] ∧ Dat H a u ∧ Dat H b v := by
  obtain ⟨u, r, rfl, hu, hr⟩ := h
  obtain ⟨v, rfl, hv⟩ := datL1 hr
  exact ⟨u, v, rfl, hu, hv⟩
theorem datL3 {a b c : D} {vs : List V} (h : DatL H [a, b, c] vs) : ∃ u v w, vs = [u, v, w] ∧ Dat H a u ∧ Dat H b v ∧ Dat H c w := by
  obtain ⟨u, r, rfl, hu, hr⟩ := h
  obtain ⟨v, w, rfl, hv⟩ := datL2 hr
  exact ⟨u, v, w, rfl, hu, hv⟩
theorem datL4 {a b c d : D} {vs : List V} (h : DatL H [a, b, c, d] vs) : ∃ u v w x, vs = [u, v, w, x] ∧ Dat H a u ∧ Dat H b v ∧ Dat H c w ∧ Dat H d x := by
  obtain ⟨u, r, rfl, hu, hr⟩ := h
  obtain ⟨v, w, x, rfl, hv⟩ := datL3 hr
  exact ⟨u, v, w, x, rfl, hu, hv⟩
theorem datL5 {a b c d e : D} {vs : List V} (h : DatL H [a, b, c, d, e] vs) : ∃ u v w x y, vs = [u, v, w, x, y] ∧ Dat H a u ∧ Dat H b v ∧ Dat H c w ∧ Dat H d x ∧ Dat H e y := by
  obtain ⟨u, r, rfl, hu, hr⟩ := h
  obtain ⟨v, w, x, y, rfl, hv⟩ := datL4 hr
  exact ⟨u, v, w, x, y, rfl, hu, hv⟩
end

section
variable {K : PySem.W.Frag} {σ : L2.St} {H H' H1 : Hp} {ta tb te tx tl : L2.TE} {t u : TT} {x y z v : V} {d d' : D} {ds : List D} {vs : List Nat} {j : Nat}
/-! ### all -/
theorem ed_all {bs : List Bool} (h : EvD ta σ H (.lst (bs.map .bl))) : EvD (tCB (rAll K) (tCons ta tNil)) σ H (.bl (bs.all id)) := fun H1 e Q q =>
  h H1 e _ fun v H2 e2 ⟨a, vs, ev, hv, hd⟩ => ⟨a, bs, by rw [ev], by rw [← DatL.of_bls hd]; exact SqL.of hv, q _ H2 e2 rfl⟩
theorem ed_allT {n : Nat} (h : EvD ta σ H (.lst ((List.range n).map fun _ => D.bl true))) : EvD (tCB (rAll K) (tCons ta tNil)) σ H (.bl true) := by
  have e : ((List.range n).map fun _ => D.bl true) = ((List.range n).map fun _ => true).map D.bl := by rw [List.map_map]; rfl
  rw [e] at h
  have k : EvD (tCB (rAll K) (tCons ta tNil)) σ H (.bl (((List.range n).map fun _ => true).all id)) := ed_all h
  have e2 : ((List.range n).map fun _ => true).all id = true := by simp
  rw [e2] at k
  exact k

/-! ### comprehensions -/
theorem range_snoc {α : Type} (f : Nat → α) (i : Nat) : (List.range (i + 1)).map f = (List.range i).map f ++ [f i] := by
  rw [List.range_succ, List.map_append]
  rfl
/-- the list at Dl holds what the first i turns gave -/
def Cwd (H1 : Hp) (f : Nat → List D) (Dl : Addr) (i : Nat) (H' : Hp) : Prop := H1 Dl = none ∧ Ex H1 H' ∧ ∃ vs, H' Dl = some (.lst vs) ∧ DatL H' (f i) vs
theorem cwd_zero {f : Nat → List D} {Dl : Addr} (h : H1 Dl = none) (h0 : f 0 = []) : Cwd H1 f Dl 0 (upd H1 Dl (.lst [])) := ⟨h, Ex.new h, [], upd_same, by rw [h0]; rfl⟩
theorem cwd_turn {f : Nat → List D} {Dl : Addr} {i : Nat} {σ2 : L2.St} (p : Cwd H1 f Dl i H') (hl : (f i).length < 50000) (hT : D.TL (f i) = true) (hdT : d.T = true) (hs : f (i + 1) = f i ++ [d]) (he : EvD te σ2 H' d) :
    te σ2 H' fun y H4 => ∃ acc, H4 Dl = some (.lst acc) ∧ acc.length < sizeLine ∧ Cwd H1 f Dl (i + 1) (upd H4 Dl (.lst (acc ++ [y]))) := by
  obtain ⟨p1, p2, us, p3, p4⟩ := p
  refine he H' (Ex.refl H') _ fun y H4 e4 hy => ⟨us, e4 Dl _ p3, ?_, p1, Ex.mut (p2.trans e4) p1, _, upd_same, ?_⟩
  · exact sz_lt (by rw [p4.length]; omega)
  · rw [hs]
    have te4 : TE H4 (upd H4 Dl (.lst (us ++ [y]))) := TE.upd (e4 Dl _ p3)
    exact ((p4.ex e4).te te4 hT).snoc (hy.te te4 hdT)
theorem Cwd.ex {f : Nat → List D} {Dl : Addr} {i : Nat} {H3 : Hp} (p : Cwd H1 f Dl i H') (e : Ex H' H3) : Cwd H1 f Dl i H3 := by
  obtain ⟨p1, p2, us, p3, p4⟩ := p
  exact ⟨p1, p2.trans e, us, e Dl _ p3, p4.ex e⟩
theorem cwd_skip {f : Nat → List D} {Dl : Addr} {i : Nat} {H3 : Hp} (p : Cwd H1 f Dl i H') (e : Ex H' H3) (hs : f (i + 1) = f i) : Cwd H1 f Dl (i + 1) H3 := by
  obtain ⟨p1, p2, us, p3, p4⟩ := p
  exact ⟨p1, p2.trans e, us, e Dl _ p3, by rw [hs]; exact p4.ex e⟩
theorem TL_range {f : Nat → D} (hT : ∀ i, (f i).T = true) (n : Nat) : D.TL ((List.range n).map f) = true := TL_map f hT _
theorem er_lcT {f : Nat → D} (h : EvD tl σ H (.tup ds)) (hl : ds.length < 50000) (hT : ∀ i, (f i).T = true) (hw : ∀ x, wipe ((wipe σ vs).set j (some x)) vs = wipe σ vs)
    (he : ∀ (i : Nat) d v H1, Ex H H1 → ds[i]? = some d → Dat H1 d v → EvD te ((wipe σ vs).set j (some v)) H1 (f i)) : EvN (tLc (iTup K tl) (gName j) tYes te vs) σ H ((List.range ds.length).map f) := fun H0 e0 Q q =>
  h H0 e0 _ fun v H1 e1 ⟨a, us, ev, hv, hd⟩ => by
    subst ev
    refine ⟨a, rfl, ⟨us, SqT.of hv⟩, fun Dl hD => lc_tup (xs := us) (Cwd H1 (fun i => (List.range i).map f) Dl) (cwd_zero hD rfl) (fun i H' _ p => SqT.of (p.2.1 a _ hv)) (fun i x H' hi p => ?_) (fun H' p => ?_)⟩
    · obtain ⟨d, hd1, hd2⟩ := hd.getV hi
      have lt : i < us.length := (List.getElem?_eq_some_iff.mp hi).1
      refine ⟨hw x, ?_⟩
      simp only [tYes, ↓reduceIte]
      exact cwd_turn p (by simp; rw [hd.length] at lt; omega) (TL_range hT i) (hT i) (range_snoc f i) (he i d x H' ((e0.trans e1).trans p.2.1) hd1 (hd2.ex p.2.1))
    · obtain ⟨p1, p2, ws, p3, p4⟩ := p
      refine q Dl ws H' (fresh_back e1 p1) (e1.trans p2) p3 ?_
      have p5 : DatL H' ((List.range us.length).map f) ws := p4
      rw [hd.length] at p5
      exact p5
theorem er_lcL {f : Nat → D} (h : EvD tl σ H (.lst ds)) (hl : ds.length < 50000) (hT : ∀ i, (f i).T = true) (hw : ∀ x, wipe ((wipe σ vs).set j (some x)) vs = wipe σ vs)
    (he : ∀ (i : Nat) d v H1, Ex H H1 → ds[i]? = some d → Dat H1 d v → EvD te ((wipe σ vs).set j (some v)) H1 (f i)) : EvN (tLc (iList K tl) (gName j) tYes te vs) σ H ((List.range ds.length).map f) := fun H0 e0 Q q =>
  h H0 e0 _ fun v H1 e1 ⟨a, us, ev, hv, hd⟩ => by
    subst ev
    refine ⟨a, rfl, ⟨us, SqL.of hv⟩, fun Dl hD => lc_list (xs := us) (Cwd H1 (fun i => (List.range i).map f) Dl) (cwd_zero hD rfl) (fun i H' _ p => SqL.of (p.2.1 a _ hv)) (fun i x H' hi p => ?_) (fun H' p => ?_)⟩
    · obtain ⟨d, hd1, hd2⟩ := hd.getV hi
      have lt : i < us.length := (List.getElem?_eq_some_iff.mp hi).1
      refine ⟨hw x, ?_⟩
      simp only [tYes, ↓reduceIte]
      exact cwd_turn p (by simp; rw [hd.length] at lt; omega) (TL_range hT i) (hT i) (range_snoc f i) (he i d x H' ((e0.trans e1).trans p.2.1) hd1 (hd2.ex p.2.1))
    · obtain ⟨p1, p2, ws, p3, p4⟩ := p
      refine q Dl ws H' (fresh_back e1 p1) (e1.trans p2) p3 ?_
      have p5 : DatL H' ((List.range us.length).map f) ws := p4
      rw [hd.length] at p5
      exact p5
/-- the items of a list that a test lets through, as they are -/
theorem er_lcF {b : D → Bool} (h : EvD tl σ H (.lst ds)) (hl : ds.length < 50000) (hT : D.TL ds = true) (hw : ∀ x, wipe ((wipe σ vs).set j (some x)) vs = wipe σ vs)
    (ht : ∀ (i : Nat) d v H1, Ex H H1 → ds[i]? = some d → Dat H1 d v → EvT t ((wipe σ vs).set j (some v)) H1 (b d)) (he : ∀ v H1, Ev te ((wipe σ vs).set j (some v)) H1 v) : EvN (tLc (iList K tl) (gName j) t te vs) σ H (ds.filter b) := fun H0 e0 Q q =>
  h H0 e0 _ fun v H1 e1 ⟨a, us, ev, hv, hd⟩ => by
    subst ev
    refine ⟨a, rfl, ⟨us, SqL.of hv⟩, fun Dl hD => lc_list (xs := us) (Cwd H1 (fun i => (ds.take i).filter b) Dl) (cwd_zero hD rfl) (fun i H' _ p => SqL.of (p.2.1 a _ hv)) (fun i x H' hi p => ?_) (fun H' p => ?_)⟩
    · obtain ⟨d, hd1, hd2⟩ := hd.getV hi
      have lt : i < us.length := (List.getElem?_eq_some_iff.mp hi).1
      have tk : ds.take (i + 1) = ds.take i ++ [d] := by rw [List.take_add_one, hd1]; rfl
      have hTi : D.TL ((ds.take i).filter b) = true := by
        have : ∀ l : List D, D.TL l = true → D.TL (l.filter b) = true := by
          intro l
          induction l with
          | nil => intro _; rfl
          | cons c l ih =>
            intro h
            have t2 : c.T = true ∧ D.TL l = true := by simpa [D.TL] using h
            rw [List.filter_cons]
            split
            · simp [D.TL, t2.1, ih t2.2]
            · exact ih t2.2
        refine this _ ?_
        have : ∀ (l : List D) n, D.TL l = true → D.TL (l.take n) = true := by
          intro l
          induction l with
          | nil => intro n _; simp [D.TL]
          | cons c l ih =>
            intro n h
            have t2 : c.T = true ∧ D.TL l = true := by simpa [D.TL] using h
            cases n with
            | zero => rfl
            | succ n => simp [D.TL, t2.1, ih n t2.2]
        exact this ds i hT
      refine ⟨hw x, ht i d x H' ((e0.trans e1).trans p.2.1) hd1 (hd2.ex p.2.1) H' (Ex.refl H') _ fun H3 e3 => ?_⟩
      cases hb : b d with
      | true =>
        refine iteT ?_
        refine cwd_turn (d := d) (p.ex e3) ?_ hTi (TL_get hT hd1) ?_ (ed_ev (he x H3) ((hd2.ex p.2.1).ex e3))
        · have := List.length_filter_le b (ds.take i)
          have := List.length_take_le i ds
          rw [hd.length] at lt
          show ((ds.take i).filter b).length < 50000
          omega
        · show (ds.take (i + 1)).filter b = (ds.take i).filter b ++ [d]
          rw [tk, List.filter_append, List.filter_cons, hb]
          rfl
      | false =>
        refine iteF ?_
        exact cwd_skip p e3 (by
          show (ds.take (i + 1)).filter b = (ds.take i).filter b
          rw [tk, List.filter_append, List.filter_cons, hb]
          simp)
    · obtain ⟨p1, p2, ws, p3, p4⟩ := p
      refine q Dl ws H' (fresh_back e1 p1) (e1.trans p2) p3 ?_
      have p5 : DatL H' ((ds.take us.length).filter b) ws := p4
      rw [hd.length, List.take_length] at p5
      exact p5

/-- over a range from 0 -/
theorem er_lcR {f : Nat → D} {n : Nat} (h : EvD tl σ H (.int n)) (hn : n ≤ 40000) (hT : ∀ i, (f i).T = true) (hw : ∀ x, wipe ((wipe σ vs).set j (some x)) vs = wipe σ vs)
    (he : ∀ i H1, Ex H H1 → i < n → EvD te ((wipe σ vs).set j (some (.int (i : Int)))) H1 (f i)) : EvN (tLc (iRng1 (tCons tl tNil)) (gName j) tYes te vs) σ H ((List.range n).map f) := fun H0 e0 Q q =>
  ev_i h H0 e0 _ fun H1 e1 => ⟨n, rfl, by omega, by omega, fun Dl hD => by
    refine lc_range (lo := 0) (n := (n : Int).toNat) (Cwd H1 (fun i => (List.range i).map f) Dl) (cwd_zero hD rfl) (fun i H' hi p => ?_) (fun H' p => ?_)
    · have e00 : (0 : Int) + (i : Int) = (i : Int) := Int.zero_add _
      have hi' : i < n := by omega
      rw [e00]
      refine ⟨hw _, ?_⟩
      simp only [tYes, ↓reduceIte]
      exact cwd_turn p (by simp; omega) (TL_range hT i) (hT i) (range_snoc f i) (he i H' ((e0.trans e1).trans p.2.1) hi')
    · obtain ⟨p1, p2, ws, p3, p4⟩ := p
      exact q Dl ws H' (fresh_back e1 p1) (e1.trans p2) p3 p4⟩

/-! ### loops -/
variable {DD : Ends} {tu tz : TS} {g : TG}
/-- a tuple's items in turn; the word knows the heap at the loop's start -/
theorem s_forT {tl : L2.TE} (h : EvD tl σ H (.tup ds)) (hT : D.TL ds = true) (Pv : Hp → Nat → L2.St → Hp → Prop) (h0 : ∀ H1, Ex H H1 → Pv H1 0 σ H1) (hk : ∀ H1 i σ' H', Ex H H1 → Pv H1 i σ' H' → TE H1 H')
    (hs : ∀ H1 (i : Nat) d v σ' H', Ex H H1 → ds[i]? = some d → Pv H1 i σ' H' → Dat H' d v → g v σ' H' fun σ2 H2 => tu { DD with nx := Pv H1 (i + 1), ct := Pv H1 (i + 1), bk := DD.nx } σ2 H2)
    (hd : ∀ H1 σ' H', Ex H H1 → Pv H1 ds.length σ' H' → DD.nx σ' H') : tFor (iTup K tl) g tu DD σ H :=
  h H (Ex.refl H) _ fun v H1 e ⟨a, us, ev, hv, hdd⟩ => by
    subst ev
    refine ⟨a, rfl, ⟨us, SqT.of hv⟩, for_tup (xs := us) (Pv H1) (h0 H1 e) (fun i σ' H' _ p => SqT.of (hk H1 i σ' H' e p a _ hv)) (fun i x σ' H' hi p => ?_) (fun σ' H' p => hd H1 σ' H' e (by rw [← hdd.length]; exact p))⟩
    obtain ⟨d, h1, h2⟩ := hdd.getV hi
    exact hs H1 i d x σ' H' e h1 p (h2.te (hk H1 i σ' H' e p) (TL_get hT h1))
theorem q_forT {tl : L2.TE} (h : EvD tl σ H (.tup ds)) (hT : D.TL ds = true) (Pv : Hp → Nat → L2.St → Hp → Prop) (h0 : ∀ H1, Ex H H1 → Pv H1 0 σ H1) (hk : ∀ H1 i σ' H', Ex H H1 → Pv H1 i σ' H' → TE H1 H')
    (hs : ∀ H1 (i : Nat) d v σ' H', Ex H H1 → ds[i]? = some d → Pv H1 i σ' H' → Dat H' d v → g v σ' H' fun σ2 H2 => tu { DD with nx := Pv H1 (i + 1), ct := Pv H1 (i + 1), bk := tz DD } σ2 H2)
    (hd : ∀ H1 σ' H', Ex H H1 → Pv H1 ds.length σ' H' → tz DD σ' H') : tSeq (tFor (iTup K tl) g tu) tz DD σ H := s_forT (DD := { DD with nx := tz DD }) h hT Pv h0 hk hs hd
/-- a list's items in turn, the list where it stands -/
theorem s_forL {tl : L2.TE} (h : EvD tl σ H (.lst ds)) (hT : D.TL ds = true) (Pv : Hp → Addr → Nat → L2.St → Hp → Prop) (h0 : ∀ H1 a vs, Ex H H1 → H1 a = some (.lst vs) → DatL H1 ds vs → Pv H1 a 0 σ H1)
    (hk : ∀ H1 a i σ' H', Ex H H1 → Pv H1 a i σ' H' → TE H1 H' ∧ H' a = H1 a)
    (hs : ∀ H1 a (i : Nat) d v σ' H', Ex H H1 → ds[i]? = some d → Pv H1 a i σ' H' → Dat H' d v → g v σ' H' fun σ2 H2 => tu { DD with nx := Pv H1 a (i + 1), ct := Pv H1 a (i + 1), bk := DD.nx } σ2 H2)
    (hd : ∀ H1 a σ' H', Ex H H1 → Pv H1 a ds.length σ' H' → DD.nx σ' H') : tFor (iList K tl) g tu DD σ H :=
  h H (Ex.refl H) _ fun v H1 e ⟨a, us, ev, hv, hdd⟩ => by
    subst ev
    refine ⟨a, rfl, ⟨us, SqL.of hv⟩, for_list (xs := us) (Pv H1 a) (h0 H1 a us e hv hdd) (fun i σ' H' _ p => SqL.of ((hk H1 a i σ' H' e p).2.trans hv)) (fun i x σ' H' hi p => ?_) (fun σ' H' p => hd H1 a σ' H' e (by rw [← hdd.length]; exact p))⟩
    obtain ⟨d, h1, h2⟩ := hdd.getV hi
    exact hs H1 a i d x σ' H' e h1 p (h2.te (hk H1 a i σ' H' e p).1 (TL_get hT h1))
theorem q_forL {tl : L2.TE} (h : EvD tl σ H (.lst ds)) (hT : D.TL ds = true) (Pv : Hp → Addr → Nat → L2.St → Hp → Prop) (h0 : ∀ H1 a vs, Ex H H1 → H1 a = some (.lst vs) → DatL H1 ds vs → Pv H1 a 0 σ H1)
    (hk : ∀ H1 a i σ' H', Ex H H1 → Pv H1 a i σ' H' → TE H1 H' ∧ H' a = H1 a)
    (hs : ∀ H1 a (i : Nat) d v σ' H', Ex H H1 → ds[i]? = some d → Pv H1 a i σ' H' → Dat H' d v → g v σ' H' fun σ2 H2 => tu { DD with nx := Pv H1 a (i + 1), ct := Pv H1 a (i + 1), bk := tz DD } σ2 H2)
    (hd : ∀ H1 a σ' H', Ex H H1 → Pv H1 a ds.length σ' H' → tz DD σ' H') : tSeq (tFor (iList K tl) g tu) tz DD σ H := s_forL (DD := { DD with nx := tz DD }) h hT Pv h0 hk hs hd
/-- a range in turn -/
theorem s_forR {n : Nat} (h : EvD ta σ H (.int n)) (hn : n ≤ 100000) (Pv : Nat → L2.St → Hp → Prop) (h0 : ∀ H1, Ex H H1 → Pv 0 σ H1)
    (hs : ∀ (i : Nat) σ' H', i < n → Pv i σ' H' → tu { DD with nx := Pv (i + 1), ct := Pv (i + 1), bk := DD.nx } (σ'.set j (some (.int (i : Int)))) H') (hd : ∀ σ' H', Pv n σ' H' → DD.nx σ' H') : tFor (iRng1 (tCons ta tNil)) (gName j) tu DD σ H :=
  s_forR1 (ea_cons (ev_i h) ea_nil) ⟨by omega, by omega⟩ Pv h0 (fun i σ' H' hi p => hs i σ' H' (by omega) p) (fun σ' H' p => hd σ' H' (by simpa using p))
theorem q_forR {n : Nat} (h : EvD ta σ H (.int n)) (hn : n ≤ 100000) (Pv : Nat → L2.St → Hp → Prop) (h0 : ∀ H1, Ex H H1 → Pv 0 σ H1)
    (hs : ∀ (i : Nat) σ' H', i < n → Pv i σ' H' → tu { DD with nx := Pv (i + 1), ct := Pv (i + 1), bk := tz DD } (σ'.set j (some (.int (i : Int)))) H') (hd : ∀ σ' H', Pv n σ' H' → tz DD σ' H') : tSeq (tFor (iRng1 (tCons ta tNil)) (gName j) tu) tz DD σ H :=
  s_forR (DD := { DD with nx := tz DD }) h hn Pv h0 hs hd
/-- a range from lo below n -/
theorem s_forR2 {lo n : Nat} (h : EvD ta σ H (.int lo)) (h2 : EvD tb σ H (.int n)) (hl : lo ≤ 100000) (hn : n ≤ 100000) (Pv : Nat → L2.St → Hp → Prop) (h0 : ∀ H1, Ex H H1 → Pv 0 σ H1)
    (hs : ∀ (i : Nat) σ' H', lo + i < n → Pv i σ' H' → tu { DD with nx := Pv (i + 1), ct := Pv (i + 1), bk := DD.nx } (σ'.set j (some (.int ((lo + i : Nat) : Int)))) H') (hd : ∀ σ' H', Pv (n - lo) σ' H' → DD.nx σ' H') : tFor (iRng2 (tCons ta (tCons tb tNil))) (gName j) tu DD σ H :=
  Evl.s_forR2 (ea_cons (ev_i h) (ea_cons (ev_i h2) ea_nil)) ⟨by omega, by omega, by omega, by omega⟩ Pv h0 (fun i σ' H' hi p => by
    have e : ((lo : Int) + (i : Int)) = ((lo + i : Nat) : Int) := by omega
    rw [e]
    exact hs i σ' H' (by omega) p) (fun σ' H' p => hd σ' H' (by
      have e : ((n : Int) - (lo : Int)).toNat = n - lo := by omega
      rw [e] at p
      exact p))
theorem q_forR2 {lo n : Nat} (h : EvD ta σ H (.int lo)) (h2 : EvD tb σ H (.int n)) (hl : lo ≤ 100000) (hn : n ≤ 100000) (Pv : Nat → L2.St → Hp → Prop) (h0 : ∀ H1, Ex H H1 → Pv 0 σ H1)
    (hs : ∀ (i : Nat) σ' H', lo + i < n → Pv i σ' H' → tu { DD with nx := Pv (i + 1), ct := Pv (i + 1), bk := tz DD } (σ'.set j (some (.int ((lo + i : Nat) : Int)))) H') (hd : ∀ σ' H', Pv (n - lo) σ' H' → tz DD σ' H') : tSeq (tFor (iRng2 (tCons ta (tCons tb tNil))) (gName j) tu) tz DD σ H :=
  s_forR2 (DD := { DD with nx := tz DD }) h h2 hl hn Pv h0 hs hd
/-- a, b = an item that is a tuple -/
theorem g_tup {n : Nat} {ts : TGs} {Q : L2.St → Hp → Prop} {v : V} (h : Dat H (.tup ds) v) (hn : ds.length = n) (k : ∀ us, DatL H ds us → ts us σ H Q) : gTup K n ts v σ H Q := by
  obtain ⟨a, us, rfl, h1, h2⟩ := h
  exact ⟨a, us, rfl, SqT.of h1, by rw [h2.length, hn], k us h2⟩
end
end JH
set_option Elab.async false
set_option maxRecDepth 100000
set_option maxHeartbeats 4000000
/-! the looks at values -/
namespace JH
open PySem PySem.Spec PyProof.Rows L2 Evl
section
variable {P : Program} {w : World} {K : PySem.W.Frag} {mg : Str → Option Value} {base : Heap}
theorem get_mapI {ns : List Int} {i : Nat} {d : D} (h : (ns.map D.int)[i]? = some d) : ∃ n, ns[i]? = some n ∧ d = .int n := by
  rw [List.getElem?_map] at h
  cases e : ns[i]? with
  | none => rw [e] at h; cases h
  | some n =>
    rw [e] at h
    exact ⟨n, rfl, (Option.some.inj h).symm⟩
theorem get_mapM {m : List (List Int)} {i : Nat} {d : D} (h : (m.map fun r => D.tup (r.map .int))[i]? = some d) : ∃ r, m[i]? = some r ∧ d = .tup (r.map .int) := by
  rw [List.getElem?_map] at h
  cases e : m[i]? with
  | none => rw [e] at h; cases h
  | some n =>
    rw [e] at h
    exact ⟨n, rfl, (Option.some.inj h).symm⟩

abbrev sp_is_integer : Sp := spR (fun ds => ∃ i, ds = [.int i]) (fun _ d => d = .bl true)
abbrev K_is_integer (P : Program) (w : World) (K : PySem.W.Frag) (mg : Str → Option Value) (base : Heap) : Prop := Fk P w K mg base "is_integer" ["value"] 1 sp_is_integer
theorem sc_is_integer : FnScope ["value"] ["value"] (defScope s_is_integer) := ⟨rfl, rfl, rfl, by decide +kernel, rfl, by decide +kernel, by decide +kernel⟩
theorem ok_is_integer {f : Addr} {fd : FuncData} (F : FnP K "is_integer" "is_integer" s_is_integer f fd) (T : Txt mg)  : FnOk P w K mg base CX0 1 f fd ["value"] (sp_is_integer) := by
  refine FunD.ok F sc_is_integer (fun vs H Q E h => ?_) (fun cdv A outer s H vs Q E hr h => ?_)
  · obtain ⟨ds, hd, ⟨i, rfl⟩, _⟩ := h
    exact hd.length
  · obtain ⟨ds, hd, ⟨i, rfl⟩, k⟩ := h
    obtain ⟨v, rfl, hv⟩ := datL1 hd
    refine ⟨_, PSs.nox (pss_one (ps_ret (pe_and (pe_callB (k_isi (K := K)) (by rfl) T.isinstance bt_isinstance (pa_cons (pv 0) (pa_cons (pe_bltn (v := .ty "int") (by rfl) T.int bt_int rfl) pa_nil))) (pe_one (pe_not (pe_callB (k_isi (K := K)) (by rfl) T.isinstance bt_isinstance (pa_cons (pv 0) (pa_cons (pe_bltn (v := .ty "bool") (by rfl) T.bool bt_bool rfl) pa_nil)))))))), ?_⟩
    exact s_retR (ed_and (ed_isi (d := .int i) (b := true) (ed_var rfl hv) kb_ii) (fun _ => ed_not (ed_isi (d := .int i) (b := false) (ed_var rfl hv) kb_ib))) (fun v H1 e r => k v H1 _ e rfl r)

abbrev sp_is_listed : Sp := spR (fun ds => ∃ ns : List Int, ds = [.tup (ns.map .int)] ∧ ns.length ≤ 1000) (fun _ d => d = .bl true)
abbrev K_is_listed (P : Program) (w : World) (K : PySem.W.Frag) (mg : Str → Option Value) (base : Heap) : Prop := Fk P w K mg base "is_listed" ["values"] 2 sp_is_listed
theorem sc_is_listed : FnScope ["values", "value"] ["values"] (defScope s_is_listed) := ⟨rfl, rfl, rfl, by decide +kernel, rfl, by decide +kernel, by decide +kernel⟩
theorem ok_is_listed {f : Addr} {fd : FuncData} (F : FnP K "is_listed" "is_listed" s_is_listed f fd) (T : Txt mg) (c_is_integer : K_is_integer P w K mg base) : FnOk P w K mg base CX0 2 f fd ["values"] (sp_is_listed) := by
  refine FunD.ok F sc_is_listed (fun vs H Q E h => ?_) (fun cdv A outer s H vs Q E hr h => ?_)
  · obtain ⟨ds, hd, ⟨i, rfl, _⟩, _⟩ := h
    exact hd.length
  · obtain ⟨ds, hd, ⟨ns, rfl, hn⟩, k⟩ := h
    obtain ⟨v, rfl, hv⟩ := datL1 hd
    refine ⟨_, PSs.nox (pss_one (ps_ret (pe_and (pe_callB (k_isiT (K := K)) (by rfl) T.isinstance bt_isinstance (pa_cons (pv 0) (pa_cons (pe_tup (pa_cons (pe_bltn (v := .ty "list") (by rfl) T.list bt_list rfl) (pa_cons (pe_bltn (v := .ty "tuple") (by rfl) T.tuple bt_tuple rfl) pa_nil))) pa_nil))) (pe_one (pe_callB (k_all (K := K) (by rfl)) (by rfl) T.all bt_all (pa_cons (pe_lc (own := [("value", 1)]) (by rfl) sc_is_listed.nd (k_pT (K := K) (pv 0)) (blkOk_by (by kernel_rfl)) (fun _ _ _ _ _ => (pgv 1 sc_is_listed.nd)) (fun _ _ _ _ _ => pts_nil) (fun _ _ _ _ _ => (pe_callF c_is_integer hr (by decide) (pa_cons (pv 1) pa_nil)))) pa_nil)))))), ?_⟩
    refine s_retR (ed_and (b := true) (ed_isiT (d := .tup (ns.map .int)) (b := false) (c := true) (ed_var rfl hv) kb_tl kb_tt) (fun _ => ed_allT (n := ns.length) ?_)) (fun v H1 e r => k v H1 _ e rfl r)
    have h1 := er_lcT (K := K) (σ := [some v, none]) (j := 1) (vs := [1]) (f := fun _ => D.bl true) (te := tCall sp_is_integer [] E0 (tCons (tVar 1) tNil)) (ed_var (i := 0) rfl hv) (by rw [List.length_map]; omega) (fun _ => rfl) (fun _ => rfl) (fun i d v H1 e hi hd => by
      obtain ⟨n, _, rfl⟩ := get_mapI hi
      exact ed_call (eda_cons (ed_var rfl hd) eda_nil) ⟨n, rfl⟩ (fun _ h => h))
    rw [List.length_map] at h1
    exact h1.toD

abbrev sp_is_between : Sp := spR (fun ds => ∃ i j k, ds = [.int i, .int j, .int k]) (fun ds d => ∀ i j k, ds = [.int i, .int j, .int k] → d = .bl (decide (j ≤ i) && decide (i ≤ k)))
abbrev K_is_between (P : Program) (w : World) (K : PySem.W.Frag) (mg : Str → Option Value) (base : Heap) : Prop := Fk P w K mg base "is_between" ["value", "least", "most"] 2 sp_is_between
theorem ed_chain {r r' : R2} {σ : L2.St} {H : Hp} {ta tb tc : L2.TE} {x y z : V} {b c : Bool} (ha : Ev ta σ H x) (hb : Ev tb σ H y) (hr : RV r x y H (.bl b)) (hc : b = true → Ev tc σ H z) (hr' : b = true → RV r' y z H (.bl c)) : EvD (tChain r r' ta tb tc) σ H (.bl (b && c)) := fun H1 e Q q =>
  ha H1 e _ fun H2 e2 => hb H2 (e.trans e2) _ fun H3 e3 => hr H3 ((e.trans e2).trans e3) _ fun H4 e4 => ⟨b, rfl, by
    cases b with
    | true =>
      show tc σ H4 _
      exact hc rfl H4 (((e.trans e2).trans e3).trans e4) _ fun H5 e5 => hr' rfl H5 ((((e.trans e2).trans e3).trans e4).trans e5) _ fun H6 e6 => q _ H6 ((((e2.trans e3).trans e4).trans e5).trans e6) rfl
    | false =>
      show Q (.bl false) H4
      exact q _ H4 ((e2.trans e3).trans e4) rfl⟩
theorem sc_is_between : FnScope ["value", "least", "most"] ["value", "least", "most"] (defScope s_is_between) := ⟨rfl, rfl, rfl, by decide +kernel, rfl, by decide +kernel, by decide +kernel⟩
theorem ok_is_between {f : Addr} {fd : FuncData} (F : FnP K "is_between" "is_between" s_is_between f fd) (T : Txt mg) (c_is_integer : K_is_integer P w K mg base) : FnOk P w K mg base CX0 2 f fd ["value", "least", "most"] (sp_is_between) := by
  refine FunD.ok F sc_is_between (fun vs H Q E h => ?_) (fun cdv A outer s H vs Q E hr h => ?_)
  · obtain ⟨ds, hd, ⟨i, j, k, rfl⟩, _⟩ := h
    exact hd.length
  · obtain ⟨ds, hd, ⟨i, j, m, rfl⟩, k⟩ := h
    obtain ⟨v1, v2, v3, rfl, h1, h2, h3⟩ := datL3 hd
    refine ⟨_, PSs.nox (pss_one (ps_ret (pe_and (pe_callF c_is_integer hr (by decide) (pa_cons (pv 0) pa_nil)) (pe_one (pe_chain op_le op_le (pv 1) (pv 0) (pv 2)))))), ?_⟩
    refine s_retR (ed_and (b := decide (j ≤ i) && decide (i ≤ m)) (ed_call (d := .bl true) (eda_cons (ed_var rfl h1) eda_nil) ⟨i, rfl⟩ (fun _ h => h)) (fun _ => ed_chain (ev_i (ed_var rfl h2)) (ev_i (ed_var rfl h1)) rv_I0 (fun _ => ev_i (ed_var rfl h3)) (fun _ => rv_I0))) (fun v H1 e r => k v H1 _ e ?_ r)
    rintro i' j' k' e'
    simp only [List.cons.injEq, D.int.injEq, and_true] at e'
    obtain ⟨rfl, rfl, rfl⟩ := e'
    rw [Bool.true_and]
end
end JH
set_option Elab.async false
set_option maxRecDepth 100000
set_option maxHeartbeats 4000000
/-! the looks at tables of bits and answers -/
namespace JH
open PySem PySem.Spec PyProof.Rows L2 Evl
section
variable {K : PySem.W.Frag} {σ : L2.St} {H : Hp} {te tl tl1 : L2.TE} {vs vs1 : List Nat} {j j1 : Nat} {m : List (List Int)}
def trues (k : Nat) : List V := (List.range k).map fun _ => V.bl true
theorem trues_snoc (k : Nat) : trues (k + 1) = trues k ++ [.bl true] := range_snoc _ k
theorem dat_trues (k : Nat) {H : Hp} : DatL H ((List.range k).map fun _ => D.bl true) (trues k) := by
  induction k with
  | zero => rfl
  | succ k ih =>
    rw [range_snoc, trues_snoc]
    exact ih.snoc rfl
/-- [.. for one in m for bit in one], every one of them true -/
theorem er_lc2M {n c : Nat} (h : EvD tl σ H (mat m)) (sh : Sh n c m) (hn : n ≤ 100) (hc : c ≤ 100) (hw : ∀ x, wipe ((wipe σ vs).set j (some x)) vs = wipe σ vs)
    (hw1 : ∀ x y, wipe ((wipe ((wipe σ vs).set j (some x)) vs1).set j1 (some y)) vs1 = wipe ((wipe σ vs).set j (some x)) vs1) (h1 : ∀ x H1, Ev tl1 ((wipe σ vs).set j (some x)) H1 x)
    (he : ∀ r (i : Int) x H1, r ∈ m → i ∈ r → EvD te ((wipe ((wipe σ vs).set j (some x)) vs1).set j1 (some (.int i))) H1 (.bl true)) :
    EvR (tLc2 (iTup K tl) (gName j) tYes (iTup K tl1) (gName j1) tYes te vs vs1) σ H fun H v => ∃ k, Dat H (.lst ((List.range k).map fun _ => D.bl true)) v := fun H0 e0 Q q =>
  h H0 e0 _ fun v H1 e1 ⟨a, us, ev, hv, hd⟩ => by
    subst ev
    have hlen : us.length = n := by rw [hd.length, List.length_map]; exact sh.1
    refine ⟨a, rfl, ⟨us, SqT.of hv⟩, fun Dl hD => ?_⟩
    refine ⟨fun i m' H' => m' = n - i ∧ i ≤ n ∧ Ex H1 H' ∧ ∃ k, k ≤ i * 100 ∧ H' Dl = some (.lst (trues k)), ⟨n, by simp, Nat.zero_le _, Ex.new hD, 0, Nat.zero_le _, upd_same⟩, ?_⟩
    rintro i m' H' ⟨rfl, hi, ex, k, hk, hl⟩
    have hsq : SqT K H' a us := SqT.of (ex a _ hv)
    by_cases hlt : i < n
    · have hiu : i < us.length := by rw [hlen]; exact hlt
      refine .inr ⟨⟨us, us[i], hsq, by simp [hiu]⟩, fun H'' => Ex H1 H'' ∧ ∃ k, k ≤ (i + 1) * 100 ∧ H'' Dl = some (.lst (trues k)), fun H'' p => ⟨n - (i + 1), by omega, rfl, hlt, p⟩, fun x H'' y => ?_⟩
      obtain ⟨ey, y⟩ := y
      have ey' := ey.symm
      subst ey'
      have hx := y us hsq
      obtain ⟨d, hd1, hd2⟩ := hd.getV hx
      obtain ⟨r, hr, rfl⟩ := get_mapM hd1
      obtain ⟨b, ws, rfl, hb, hdr⟩ := hd2
      have ews := DatL.of_ints hdr
      subst ews
      have hrc : r.length = c := sh.2 r (List.mem_of_getElem? hr)
      refine ⟨hw _, ?_⟩
      simp only [tYes, ↓reduceIte]
      refine h1 _ H' H' (Ex.refl H') _ fun H4 e4 => ?_
      refine ⟨b, rfl, ⟨_, SqT.of (e4 b _ (ex b _ hb))⟩, ?_⟩
      refine ⟨fun i2 m2 H2 => m2 = c - i2 ∧ i2 ≤ c ∧ Ex H1 H2 ∧ ∃ k, k ≤ i * 100 + i2 ∧ H2 Dl = some (.lst (trues k)), ⟨c, by simp, Nat.zero_le _, ex.trans e4, k, by omega, e4 Dl _ hl⟩, ?_⟩
      rintro i2 m2 H2 ⟨rfl, hi2, ex2, k2, hk2, hl2⟩
      have hsq2 : SqT K H2 b (r.map V.int) := SqT.of (ex2 b _ hb)
      by_cases hlt2 : i2 < c
      · have hir : i2 < (r.map V.int).length := by rw [List.length_map, hrc]; exact hlt2
        refine .inr ⟨⟨_, (r.map V.int)[i2], hsq2, by rw [List.getElem?_eq_getElem hir]⟩, fun H'' => Ex H1 H'' ∧ ∃ k, k ≤ i * 100 + (i2 + 1) ∧ H'' Dl = some (.lst (trues k)), fun H'' p => ⟨c - (i2 + 1), by omega, rfl, hlt2, p⟩, fun x2 H3 y2 => ?_⟩
        obtain ⟨ey2, y2⟩ := y2
        have ey2' := ey2.symm
        subst ey2'
        have hx2 := y2 _ hsq2
        obtain ⟨z, hz, rfl⟩ : ∃ z, r[i2]? = some z ∧ x2 = .int z := by
          rw [List.getElem?_map] at hx2
          cases e : r[i2]? with
          | none => rw [e] at hx2; cases hx2
          | some z =>
            rw [e] at hx2
            exact ⟨z, rfl, (Option.some.inj hx2).symm⟩
        refine ⟨hw1 _ _, ?_⟩
        simp only [↓reduceIte]
        refine he r z _ H2 (List.mem_of_getElem? hr) (List.mem_of_getElem? hz) H2 (Ex.refl H2) _ fun y3 H5 e5 hy3 => ?_
        have e3 : y3 = .bl true := hy3
        subst e3
        have hDl5 := e5 Dl _ hl2
        refine ⟨trues k2, hDl5, ?_, Ex.mut (ex2.trans e5) hD, k2 + 1, by omega, by rw [upd_same, trues_snoc]⟩
        unfold trues
        exact sz_lt (by simp; omega)
      · have e : i2 = c := by omega
        subst e
        exact .inl ⟨⟨_, hsq2, by rw [List.length_map, hrc]; exact Nat.le_refl _⟩, ex2, k2, by omega, hl2⟩
    · have e : i = n := by omega
      subst e
      exact .inl ⟨⟨us, hsq, by rw [hlen]; exact Nat.le_refl _⟩, q _ H' (e1.trans ex) ⟨k, Dat.lst hl (dat_trues k)⟩⟩
end
section
variable {P : Program} {w : World} {K : PySem.W.Frag} {mg : Str → Option Value} {base : Heap}
abbrev sp_are_told : Sp := spR (fun ds => ∃ (m : List (List Int)) (n c : Nat), ds = [mat m, .int n, .int c] ∧ Sh n c m ∧ n ≤ 100 ∧ c ≤ 100) (fun _ d => d = .bl true)
abbrev K_are_told (P : Program) (w : World) (K : PySem.W.Frag) (mg : Str → Option Value) (base : Heap) : Prop := Fk P w K mg base "are_told" ["value", "many", "coins"] 3 sp_are_told
theorem sc_are_told : FnScope ["value", "many", "coins", "one"] ["value", "many", "coins"] (defScope s_are_told) := ⟨rfl, rfl, rfl, by decide +kernel, rfl, by decide +kernel, by decide +kernel⟩
theorem ok_are_told {f : Addr} {fd : FuncData} (F : FnP K "are_told" "are_told" s_are_told f fd) (T : Txt mg) (c_is_listed : K_is_listed P w K mg base) : FnOk P w K mg base CX0 3 f fd ["value", "many", "coins"] (sp_are_told) := by
  refine FunD.ok F sc_are_told (fun vs H Q E h => ?_) (fun cdv A outer s H vs Q E hr h => ?_)
  · obtain ⟨ds, hd, ⟨m, n, c, rfl, _⟩, _⟩ := h
    exact hd.length
  · obtain ⟨ds, hd, ⟨m, n, c, rfl, sh, hn, hc⟩, k⟩ := h
    obtain ⟨v1, v2, v3, rfl, h1, h2, h3⟩ := datL3 hd
    refine ⟨_, PSs.nox (pss_cons (ps_if (PW.pt (pw_or (pt_not (pt_val (pe_callB (k_isi (K := K)) (by rfl) T.isinstance bt_isinstance (pa_cons (pv 0) (pa_cons (pe_bltn (v := .ty "tuple") (by rfl) T.tuple bt_tuple rfl) pa_nil))))) (pw_or1 (pt_cmpR op_ne (pe_callB (k_len (K := K)) (by rfl) T.len bt_len (pa_cons (pv 0) pa_nil)) (pv 1) (nomark _)))))
    (pss_one (ps_ret pe_bl))
    pss_nil)
    (pss_one (ps_ret (pe_callB (k_all (K := K) (by rfl)) (by rfl) T.all bt_all (pa_cons (pe_lc (own := [("one", 3)]) (by rfl) sc_are_told.nd (k_pT (K := K) (pv 0)) (blkOk_by (by kernel_rfl)) (fun _ _ _ _ _ => (pgv 3 sc_are_told.nd)) (fun _ _ _ _ _ => pts_nil) (fun _ _ _ _ _ => (pe_and (pe_callB (k_isi (K := K)) (by rfl) T.isinstance bt_isinstance (pa_cons (pv 3) (pa_cons (pe_bltn (v := .ty "tuple") (by rfl) T.tuple bt_tuple rfl) pa_nil))) (pe_and (pe_cmpR op_eq (pe_callB (k_len (K := K)) (by rfl) T.len bt_len (pa_cons (pv 3) pa_nil)) (pv 2) (nomark _)) (pe_one (pe_callF c_is_listed hr (by decide) (pa_cons (pv 3) pa_nil))))))) pa_nil))))), ?_⟩
    have el : ((m.map fun r => D.tup (r.map .int)).length : Int) = (n : Int) := by rw [List.length_map, sh.1]
    have h1' : Dat H (D.tup (m.map fun r => D.tup (r.map D.int))) v1 := h1
    refine q_when (b := (!true || !decide (((m.map fun r => D.tup (r.map .int)).length : Int) = (n : Int)))) (et_or (et_not (et_v (ed_isi (d := mat m) (b := true) (ed_var rfl h1) kb_tt))) (fun _ => et_b (ed_neI (ed_lenT (ed_var rfl h1)) (ed_var rfl h2)))) (fun hb => ?_) (fun _ H1 e1 => ?_)
    · rw [el] at hb
      simp at hb
    · refine s_retR (ed_allT (n := n) ?_) (fun v H1 e r => k v H1 _ (e1.trans e) rfl r)
      have hh := er_lcT (K := K) (σ := [some v1, some v2, some v3, none]) (H := H1) (j := 3) (vs := [3]) (f := fun _ => D.bl true) (te := tAndV (tCB (rIsi K) (tCons (tVar 3) (tCons (tC (.ty "tuple")) tNil))) (tAndV (tOp rEq (tCB (rLenS K) (tCons (tVar 3) tNil)) (tVar 2)) (tCall sp_is_listed [] E0 (tCons (tVar 3) tNil)))) (ed_var (i := 0) rfl (h1'.ex e1)) (by rw [List.length_map, sh.1]; omega) (fun _ => rfl) (fun _ => rfl) (fun i d v H2 e2 hi hd => by
        obtain ⟨r, hr, rfl⟩ := get_mapM hi
        have hrc : r.length = c := sh.2 r (List.mem_of_getElem? hr)
        refine ed_is (d := .bl (true && (decide (((r.map D.int).length : Int) = (c : Int)) && true))) (ed_and (ed_isi (d := .tup (r.map .int)) (b := true) (ed_var rfl hd) kb_tt) (fun _ => ed_and (ed_eqI (ed_lenT (ed_var rfl hd)) (ed_var rfl ((h3.ex e1).ex e2))) (fun _ => ed_call (eda_cons (ed_var rfl hd) eda_nil) ⟨r, rfl, by omega⟩ (fun _ h => h)))) ?_
        rw [List.length_map, hrc]
        simp)
      rw [List.length_map, sh.1] at hh
      exact hh.toD

abbrev sp_are_bits : Sp := spR (fun ds => ∃ (m : List (List Int)) (n c : Nat), ds = [mat m, .int n, .int c] ∧ Sh n c m ∧ Bits m ∧ n ≤ 100 ∧ c ≤ 100) (fun _ d => d = .bl true)
abbrev K_are_bits (P : Program) (w : World) (K : PySem.W.Frag) (mg : Str → Option Value) (base : Heap) : Prop := Fk P w K mg base "are_bits" ["value", "many", "coins"] 4 sp_are_bits
theorem ed_allR {σ : L2.St} {H : Hp} {ta : L2.TE} (h : EvR ta σ H fun H v => ∃ k, Dat H (.lst ((List.range k).map fun _ => D.bl true)) v) : EvD (tCB (rAll K) (tCons ta tNil)) σ H (.bl true) := fun H1 e Q q =>
  h H1 e _ fun v H2 e2 ⟨k, hv⟩ => ed_allT (K := K) (σ := [some v]) (ta := tVar 0) (n := k) (ed_var rfl hv) H2 (Ex.refl H2) _ (fun u H3 e3 hu => q u H3 (e2.trans e3) hu) |> fun ⟨_, h1, h2⟩ => by
    cases h1
    exact h2
theorem sc_are_bits : FnScope ["value", "many", "coins", "one", "bit"] ["value", "many", "coins"] (defScope s_are_bits) := ⟨rfl, rfl, rfl, by decide +kernel, rfl, by decide +kernel, by decide +kernel⟩
theorem ok_are_bits {f : Addr} {fd : FuncData} (F : FnP K "are_bits" "are_bits" s_are_bits f fd) (T : Txt mg) (c_are_told : K_are_told P w K mg base) : FnOk P w K mg base CX0 4 f fd ["value", "many", "coins"] (sp_are_bits) := by
  refine FunD.ok F sc_are_bits (fun vs H Q E h => ?_) (fun cdv A outer s H vs Q E hr h => ?_)
  · obtain ⟨ds, hd, ⟨m, n, c, rfl, _⟩, _⟩ := h
    exact hd.length
  · obtain ⟨ds, hd, ⟨m, n, c, rfl, sh, bi, hn, hc⟩, k⟩ := h
    obtain ⟨v1, v2, v3, rfl, h1, h2, h3⟩ := datL3 hd
    refine ⟨_, PSs.nox (pss_one (ps_ret (pe_and (pe_callF c_are_told hr (by decide) (pa_cons (pv 0) (pa_cons (pv 1) (pa_cons (pv 2) pa_nil)))) (pe_one (pe_callB (k_all (K := K) (by rfl)) (by rfl) T.all bt_all (pa_cons (pe_lc2 (own := [("one", 3), ("bit", 4)]) (vs1 := [4]) (by rfl) sc_are_bits.nd (k_pT (K := K) (pv 0)) (blkOk_by (by kernel_rfl)) (by decide) (fun _ _ _ _ _ => (pgv 3 sc_are_bits.nd)) (fun _ _ _ _ _ => pts_nil) (fun _ _ _ _ _ => (k_pT (K := K) (pv 3))) (fun _ _ _ _ _ => (pgv 4 sc_are_bits.nd)) (fun _ _ _ _ _ => pts_nil) (fun _ _ _ _ _ => (pe_or (pe_cmpR op_eq (pv 4) pe_int (nomark _)) (pe_one (pe_cmpR op_eq (pv 4) pe_int (nomark _)))))) pa_nil)))))), ?_⟩
    refine s_retR (ed_and (b := true) (ed_call (d := .bl true) (eda_cons (ed_var rfl h1) (eda_cons (ed_var rfl h2) (eda_cons (ed_var rfl h3) eda_nil))) ⟨m, n, c, rfl, sh, hn, hc⟩ (fun _ h => h)) (fun _ => ed_allR (er_lc2M (ed_var rfl h1) sh hn hc (fun _ => rfl) (fun _ _ => rfl) (fun x H1 => ev_var rfl) (fun r i x H1 hr hi => ?_)))) (fun v H1 e r => k v H1 _ e rfl r)
    rcases bi r hr i hi with e | e
    · subst e
      exact ed_or (a := true) (b := true) (ed_eqI (i := 0) (j := 0) (ed_var rfl rfl) ed_ci) (fun z => by cases z)
    · subst e
      exact ed_or (a := false) (b := true) (ed_eqI (i := 1) (j := 0) (ed_var rfl rfl) ed_ci) (fun _ => ed_eqI (i := 1) (j := 1) (ed_var rfl rfl) ed_ci)
end
end JH
set_option Elab.async false
set_option maxRecDepth 100000
set_option maxHeartbeats 4000000
/-! the shape of a talk, the looks at trees and talks -/
namespace JH
open PySem PySem.Spec PyProof.Rows L2 Evl
/-! ### fields and dicts of ints, by value -/
section
variable {K : PySem.W.Frag} {σ : L2.St} {H : Hp} {ta tb td ty : L2.TE} {a C dx : Addr} {fs : List (Str × V)} {f m : Str} {v : V}
theorem ev_fld (h : Ev ta σ H (.ref a)) (ho : H a = some (.ins C dx fs)) (hc : Cls K C) (hn : NoAttr K C f) (hl : fs.lookup f = some v) : Ev (tFld K ta f) σ H v := fun H1 e Q q =>
  h H1 e _ fun H2 e2 => ⟨a, C, dx, fs, v, rfl, e2 a _ (e a _ ho), hc, hn, hl, q H2 e2⟩
theorem ev_dgetK {kvs : List (Key × V)} {i : Int} (h : Ev td σ H (.ref a)) (hk : EvD ty σ H (.int i)) (ho : H a = some (.dK kvs)) (hv : valV kvs (.inl i) = some v) : Ev (tDGet td ty) σ H v := fun H1 e Q q =>
  h H1 e _ fun H2 e2 => ev_i hk H2 (e.trans e2) _ fun H3 e3 => ⟨a, v, rfl, by
    rw [← hv]
    exact DGet.k (k := Sum.inl i) (e3 a _ (e2 a _ (e a _ ho))), q H3 (e2.trans e3)⟩
theorem ed_dinK {kvs : List (Key × V)} {i : Int} {b : Bool} (hk : EvD ty σ H (.int i)) (h : Ev td σ H (.ref a)) (ho : H a = some (.dK kvs)) (hv : (valV kvs (.inl i)).isSome = b) : EvD (tDIn ty td) σ H (.bl b) := fun H1 e Q q =>
  ev_i hk H1 e _ fun H2 e2 => h H2 (e.trans e2) _ fun H3 e3 => ⟨a, valV kvs (.inl i), rfl, DGet.k (k := Sum.inl i) (e3 a _ (e2 a _ (e a _ ho))), by
    rw [hv]
    exact q _ H3 (e2.trans e3) rfl⟩
/-- o.m(..), a method by what it promises -/
theorem er_meth {sp : Sp} {E : XK} {t : TA} {R : Hp → List V → Prop} {R' : Hp → V → Prop} (h : Ev ta σ H (.ref a)) (ho : H a = some (.ins C dx fs)) (hl : fs.lookup m = none) (hx : EvRA t σ H R)
    (hs : ∀ vs H1, Ex H H1 → R H1 vs → ∀ Q : VK, (∀ v H2, Ex H1 H2 → R' H2 v → Q v H2) → sp (.ref a :: (vs ++ [])) H1 Q E) : EvR (tMeth C m sp [] E ta t) σ H R' := fun H1 e Q q =>
  h H1 e _ fun H2 e2 => ⟨a, dx, fs, rfl, e2 a _ (e a _ ho), hl, hx H2 (e.trans e2) _ fun vs H3 e3 r => hs vs H3 ((e.trans e2).trans e3) r Q fun v H4 e4 r4 => q v H4 ((e2.trans e3).trans e4) r4⟩
end
/-- everything but what stands at p is kept -/
def ExB (p : Addr) (H H' : Hp) : Prop := ∀ a o, a ≠ p → H a = some o → H' a = some o
theorem ExB.refl (p : Addr) (H : Hp) : ExB p H H := fun _ _ _ h => h
theorem ExB.trans {p : Addr} {H H1 H2 : Hp} (a : ExB p H H1) (b : ExB p H1 H2) : ExB p H H2 := fun x o n h => b x o n (a x o n h)
theorem ExB.of {p : Addr} {H H' : Hp} (e : Ex H H') : ExB p H H' := fun a o _ h => e a o h
theorem ExB.upd {p : Addr} {H : Hp} {o : HO} : ExB p H (L2.upd H p o) := fun a u n h => by rw [upd_ne n]; exact h
theorem ExB.ex {p : Addr} {H0 H H' : Hp} (e : ExB p H H') (h : Ex H0 H) (hp : H0 p = none) : Ex H0 H' := fun a o q => e a o (ne_of_none q hp) (h a o q)
/-! ### the shape -/
theorem s_ic : ¬ (("inputs" : Str) = "coins") := by decide +kernel
theorem s_ci : ¬ (("coins" : Str) = "inputs") := by decide +kernel
def shF (d1 d2 : Addr) : List (Str × V) := putF "coins" (.ref d2) (putF "inputs" (.ref d1) [])
theorem shF_inputs (d1 d2 : Addr) : (shF d1 d2).lookup ("inputs" : Str) = some (.ref d1) := by
  unfold shF
  rw [lookup_putF, if_neg s_ic, lookup_putF, if_pos rfl]
theorem shF_coins (d1 d2 : Addr) : (shF d1 d2).lookup ("coins" : Str) = some (.ref d2) := by
  unfold shF
  rw [lookup_putF, if_pos rfl]
theorem shF_no (d1 d2 : Addr) {m : Str} (h1 : ¬ m = "coins") (h2 : ¬ m = "inputs") : (shF d1 d2).lookup m = none := by
  unfold shF
  rw [lookup_putF, if_neg h1, lookup_putF, if_neg h2]
  rfl
structure TxtS (K : PySem.W.Frag) (C : Addr) : Prop where
  cl : Cls K C
  nI : NoAttr K C "inputs"
  nC : NoAttr K C "coins"
def dZ (a b : Nat) : List (Key × V) := [(.inl 0, .int a), (.inl 1, .int b)]
theorem dZ_0 (a b : Nat) : valV (dZ a b) (.inl 0) = some (.int a) := rfl
theorem dZ_1 (a b : Nat) : valV (dZ a b) (.inl 1) = some (.int b) := rfl
theorem dZ_side (a b side : Nat) (h : side < 2) : valV (dZ a b) (.inl (side : Int)) = some (.int ((if side = 0 then a else b : Nat) : Int)) := by
  rcases (by omega : side = 0 ∨ side = 1) with e | e
  · subst e; exact dZ_0 a b
  · subst e; exact dZ_1 a b
def ShapeAt (H : Hp) (p C : Addr) (Z : Sz) : Prop := ∃ dx d1 d2, H p = some (.ins C dx (shF d1 d2)) ∧ H d1 = some (.dK (dZ Z.X Z.Y)) ∧ H d2 = some (.dK (dZ Z.c0 Z.c1))
theorem ShapeAt.ex {H H' : Hp} {p C : Addr} {Z : Sz} (e : Ex H H') (h : ShapeAt H p C Z) : ShapeAt H' p C Z := by
  obtain ⟨dx, d1, d2, h1, h2, h3⟩ := h
  exact ⟨dx, d1, d2, e _ _ h1, e _ _ h2, e _ _ h3⟩

section
variable {P : Program} {w : World} {K : PySem.W.Frag} {mg : Str → Option Value} {base : Heap} {C : Addr}
def sp_Shape_init (C : Addr) : Sp := fun vs H Q _ => ∃ p dx d1 d2, vs = [.ref p, .ref d1, .ref d2] ∧ H p = some (.ins C dx []) ∧ ∀ H', ExB p H H' → H' p = some (.ins C dx (shF d1 d2)) → Q .non H'
abbrev K_Shape (P : Program) (w : World) (K : PySem.W.Frag) (mg : Str → Option Value) (base : Heap) (C : Addr) : Prop := Fc P w K mg base "Shape" C ["self", "inputs", "coins"] 1 (sp_Shape_init C)
theorem sc_Shape_init : FnScope ["self", "inputs", "coins"] ["self", "inputs", "coins"] (defScope s_Shape_init) := ⟨rfl, rfl, rfl, by decide +kernel, rfl, by decide +kernel, by decide +kernel⟩
theorem ok_Shape_init {f : Addr} {fd : FuncData} (F : FnP K "__init__" "Shape.__init__" s_Shape_init f fd) (T : Txt mg) (S : TxtS K C) : FnOk P w K mg base CX0 1 f fd ["self", "inputs", "coins"] (sp_Shape_init C) := by
  refine FunD.ok F sc_Shape_init (fun vs H Q E h => ?_) (fun cdv A outer s H vs Q E hr h => ?_)
  · obtain ⟨p, dx, d1, d2, rfl, _⟩ := h
    rfl
  · obtain ⟨p, dx, d1, d2, rfl, hp, k⟩ := h
    refine ⟨_, PSs.nox (pss_cons (ps_fld (pv 0) (pv 1) (by rfl))
    (pss_one (ps_fld (pv 0) (pv 2) (by rfl)))), ?_⟩
    refine ⟨_, rfl, _, rfl, p, C, dx, _, rfl, hp, S.cl, S.nI, (by show 0 < 1000; decide), ?_⟩
    refine ⟨_, rfl, _, rfl, p, C, dx, _, rfl, upd_same, S.cl, S.nC, (by show 1 < 1000; decide), ?_⟩
    refine k _ (fun a o n h => by rw [upd_ne n, upd_ne n]; exact h) upd_same

def isSay : Tr → Bool
  | .fin _ _ => false
  | .say _ _ _ _ => true
/-- a method of the shape that looks at a tree -/
def sp_look (C : Addr) (f : Tr → Bool) (Ok : Tr → Prop) : Sp := fun vs H Q _ => ∃ p v t Z, vs = [.ref p, v] ∧ ShapeAt H p C Z ∧ Dat H (Tr.d t) v ∧ t.WF Z ∧ Z.Ok ∧ Ok t ∧ ∀ H', Ex H H' → Q (.bl (f t)) H'
abbrev sp_is_say (C : Addr) : Sp := sp_look C isSay fun _ => True
abbrev sp_is_end (C : Addr) : Sp := sp_look C (fun _ => true) fun t => isSay t = false
abbrev K_is_say (P : Program) (w : World) (K : PySem.W.Frag) (mg : Str → Option Value) (base : Heap) (C : Addr) : Prop := Fm P w K mg base C "is_say" ["self", "tree"] 5 (sp_is_say C)
abbrev K_is_end (P : Program) (w : World) (K : PySem.W.Frag) (mg : Str → Option Value) (base : Heap) (C : Addr) : Prop := Fm P w K mg base C "is_end" ["self", "tree"] 5 (sp_is_end C)
theorem Sz.Ok.sz_le {Z : Sz} (h : Z.Ok) (side : Nat) : Z.sz side ≤ 4 := by
  unfold Sz.sz
  have := h.x4
  have := h.y4
  split <;> omega
theorem Sz.Ok.cn_le {Z : Sz} (h : Z.Ok) (side : Nat) : Z.cn side ≤ 3 := by
  unfold Sz.cn
  have := h.r3
  have := h.s3
  split <;> omega
theorem sc_Shape_is_say : FnScope ["self", "tree", "side"] ["self", "tree"] (defScope s_Shape_is_say) := ⟨rfl, rfl, rfl, by decide +kernel, rfl, by decide +kernel, by decide +kernel⟩
theorem ok_Shape_is_say {f : Addr} {fd : FuncData} (F : FnP K "is_say" "Shape.is_say" s_Shape_is_say f fd) (T : Txt mg) (S : TxtS K C) (c_is_integer : K_is_integer P w K mg base) (c_are_bits : K_are_bits P w K mg base) : FnOk P w K mg base CX0 5 f fd ["self", "tree"] (sp_is_say C) := by
  refine FunD.ok F sc_Shape_is_say (fun vs H Q E h => ?_) (fun cdv A outer s H vs Q E hr h => ?_)
  · obtain ⟨p, v, t, Z, rfl, _⟩ := h
    rfl
  · obtain ⟨p, v, t, Z, rfl, hs, hv, wf, zok, _, k⟩ := h
    obtain ⟨dx, d1, d2, hp, hd1, hd2⟩ := hs
    refine ⟨_, PSs.nox (pss_cons (ps_if (PW.pt (pw_or (pt_not (pt_val (pe_callB (k_isi (K := K)) (by rfl) T.isinstance bt_isinstance (pa_cons (pv 1) (pa_cons (pe_bltn (v := .ty "tuple") (by rfl) T.tuple bt_tuple rfl) pa_nil))))) (pw_or (pt_cmpR op_ne (pe_callB (k_len (K := K)) (by rfl) T.len bt_len (pa_cons (pv 1) pa_nil)) pe_int (nomark _)) (pw_or1 (pt_cmpR op_ne (pe_ix (k_ixT (K := K)) (pv 1) pe_int (fun _ _ => rfl)) pe_str (nomark _))))))
    (pss_one (ps_ret pe_bl))
    pss_nil)
    (pss_cons (psv 2 sc_Shape_is_say.nd (pe_ix (k_ixT (K := K)) (pv 1) pe_int (fun _ _ => rfl)))
    (pss_one (ps_ret (pe_and (pe_callF c_is_integer hr (by decide) (pa_cons (pv 2) pa_nil)) (pe_and (pe_cmp (pc_din (hu_of hr) (pv 2) (k_fld (K := K) (pv 0))) (by rfl)) (pe_one (pe_callF c_are_bits hr (by decide) (pa_cons (pe_ix (k_ixT (K := K)) (pv 1) pe_int (fun _ _ => rfl)) (pa_cons (pe_dget (hu_of hr) (k_fld (K := K) (pv 0)) (pv 2) (fun _ _ => rfl)) (pa_cons (pe_dget (hu_of hr) (k_fld (K := K) (pv 0)) (pv 2) (fun _ _ => rfl)) pa_nil))))))))))), ?_⟩
    cases t with
    | fin a b =>
      refine q_when (b := true) (et_is (b := true) (et_or (a := !true) (b := true) (et_not (et_v (ed_isi (d := Tr.d (.fin a b)) (b := true) (ed_var rfl hv) kb_tt))) (fun _ => et_or (a := true) (b := true) (et_b (ed_neI (i := 3) (j := 5) (ed_lenT (ds := [.str "end", mat a, mat b]) (ed_var rfl hv)) ed_ci)) (fun z => by cases z))) rfl) (fun _ H1 e1 => ?_) (fun z => by cases z)
      exact s_ret ev_c fun H2 e2 => k H2 (e1.trans e2)
    | say side bits f g =>
      obtain ⟨w1, w2, w3, w4, w5⟩ := wf
      have hv' : Dat H (.tup [.str "say", .int side, mat bits, f.d, g.d]) v := hv
      have eS : (decide ((Str.ofString "say") = (Str.ofString "say"))) = true := by simp
      refine q_when (b := false) (et_is (b := false) (et_or (a := !true) (b := false) (et_not (et_v (ed_isi (d := Tr.d (.say side bits f g)) (b := true) (ed_var rfl hv) kb_tt))) (fun _ => et_or (a := false) (b := false) (et_b (ed_neI (i := 5) (j := 5) (ed_lenT (ed_var rfl hv')) ed_ci))
        (fun _ => et_b (ed_is (ed_neS (i := "say") (j := "say") (ed_ixT (j := 0) (ed_var rfl hv') ed_ci rfl rfl) ed_cs) (by simp))))) rfl) (fun z => by cases z) (fun _ H1 e1 => ?_)
      refine q_asgR (ed_ixT (d := .int side) (j := 1) (ed_var rfl (hv'.ex e1)) ed_ci rfl rfl) fun u H2 e2 hu => ?_
      have eu : u = .int side := hu
      subst eu
      have e := e1.trans e2
      have hself : Ev (tVar 0) [some (V.ref p), some v, some (V.int side)] H2 (.ref p) := ev_var rfl
      refine s_retB (b := true) (ed_and (a := true) (b := true) (ed_call (d := .bl true) (eda_cons (ed_var (d := .int side) rfl rfl) eda_nil) ⟨side, rfl⟩ (fun _ h => h)) (fun _ => ed_and (a := true) (b := true)
        (ed_dinK (i := (side : Int)) (ed_var rfl rfl) (ev_fld hself (e _ _ hp) S.cl S.nI (shF_inputs _ _)) (e _ _ hd1) (by rw [dZ_side _ _ _ w1]; rfl))
        (fun _ => ed_call (d := .bl true) (eda_cons (ed_ixT (d := mat bits) (j := 2) (ed_var rfl (hv'.ex e)) ed_ci rfl rfl) (eda_cons (d := .int (Z.sz side)) (ed_i (ev_dgetK (i := (side : Int)) (ev_fld hself (e _ _ hp) S.cl S.nI (shF_inputs _ _)) (ed_var rfl rfl) (e _ _ hd1) (dZ_side _ _ _ w1)))
          (eda_cons (d := .int (Z.cn side)) (ed_i (ev_dgetK (i := (side : Int)) (ev_fld hself (e _ _ hp) S.cl S.nC (shF_coins _ _)) (ed_var rfl rfl) (e _ _ hd2) (dZ_side _ _ _ w1))) eda_nil)))
          ⟨bits, _, _, rfl, w2, w3, by have := zok.sz_le side; omega, by have := zok.cn_le side; omega⟩ (fun _ h => h)))) (fun H3 e3 => k H3 (e.trans e3))
theorem sc_Shape_is_end : FnScope ["self", "tree", "side"] ["self", "tree"] (defScope s_Shape_is_end) := ⟨rfl, rfl, rfl, by decide +kernel, rfl, by decide +kernel, by decide +kernel⟩
theorem ok_Shape_is_end {f : Addr} {fd : FuncData} (F : FnP K "is_end" "Shape.is_end" s_Shape_is_end f fd) (T : Txt mg) (S : TxtS K C) (c_are_told : K_are_told P w K mg base) : FnOk P w K mg base CX0 5 f fd ["self", "tree"] (sp_is_end C) := by
  refine FunD.ok F sc_Shape_is_end (fun vs H Q E h => ?_) (fun cdv A outer s H vs Q E hr h => ?_)
  · obtain ⟨p, v, t, Z, rfl, _⟩ := h
    rfl
  · obtain ⟨p, v, t, Z, rfl, hs, hv, wf, zok, ns, k⟩ := h
    obtain ⟨dx, d1, d2, hp, hd1, hd2⟩ := hs
    refine ⟨_, PSs.nox (pss_cons (ps_if (PW.pt (pw_or (pt_not (pt_val (pe_callB (k_isi (K := K)) (by rfl) T.isinstance bt_isinstance (pa_cons (pv 1) (pa_cons (pe_bltn (v := .ty "tuple") (by rfl) T.tuple bt_tuple rfl) pa_nil))))) (pw_or (pt_cmpR op_ne (pe_callB (k_len (K := K)) (by rfl) T.len bt_len (pa_cons (pv 1) pa_nil)) pe_int (nomark _)) (pw_or1 (pt_cmpR op_ne (pe_ix (k_ixT (K := K)) (pv 1) pe_int (fun _ _ => rfl)) pe_str (nomark _))))))
    (pss_one (ps_ret pe_bl))
    pss_nil)
    (pss_one (ps_ret (pe_callB (k_all (K := K) (by rfl)) (by rfl) T.all bt_all (pa_cons (pe_lc (own := [("side", 2)]) (by rfl) sc_Shape_is_end.nd (k_pT (K := K) (pe_tup (pa_cons pe_int (pa_cons pe_int pa_nil)))) (blkOk_by (by kernel_rfl)) (fun _ _ _ _ _ => (pgv 2 sc_Shape_is_end.nd)) (fun _ _ _ _ _ => pts_nil) (fun _ _ _ _ _ => (pe_callF c_are_told hr (by decide) (pa_cons (pe_ix (k_ixT (K := K)) (pv 1) (pe_op op_add (pv 2) pe_int) (fun _ _ => rfl)) (pa_cons (pe_dget (hu_of hr) (k_fld (K := K) (pv 0)) (pv 2) (fun _ _ => rfl)) (pa_cons (pe_dget (hu_of hr) (k_fld (K := K) (pv 0)) (pv 2) (fun _ _ => rfl)) pa_nil)))))) pa_nil))))), ?_⟩
    cases t with
    | say side bits f g => cases ns
    | fin a b =>
      obtain ⟨w1, w2⟩ := wf
      have hv' : Dat H (.tup [.str "end", mat a, mat b]) v := hv
      refine q_when (b := false) (et_is (b := false) (et_or (a := !true) (b := false) (et_not (et_v (ed_isi (d := Tr.d (.fin a b)) (b := true) (ed_var rfl hv) kb_tt))) (fun _ => et_or (a := false) (b := false) (et_b (ed_neI (i := 3) (j := 3) (ed_lenT (ed_var rfl hv')) ed_ci))
        (fun _ => et_b (ed_is (ed_neS (i := "end") (j := "end") (ed_ixT (j := 0) (ed_var rfl hv') ed_ci rfl rfl) ed_cs) (by simp))))) rfl) (fun z => by cases z) (fun _ H1 e1 => ?_)
      refine s_retB (b := true) (ed_allT (n := 2) ?_) (fun H2 e2 => k H2 (e1.trans e2))
      refine (er_lcT (ds := [.int 0, .int 1]) (f := fun _ => D.bl true) (ed_tup (eda_cons ed_ci (eda_cons ed_ci eda_nil)) (by decide)) (by decide) (fun _ => rfl) (fun _ => rfl) (fun i d u H2 e2 hi hu => ?_)).toD
      have e := e1.trans e2
      have key : ∀ side : Nat, side < 2 → ∀ m : List (List Int), Sh (Z.sz side) (Z.cn side) m → [D.str "end", mat a, mat b][side + 1]? = some (mat m) → u = V.int (side : Int) →
          EvD (tCall sp_are_told [] E0 (tCons (tOp (rIxT K) (tVar 1) (tOp (rI0 fun i j => .int (i + j)) (tVar 2) (tC (.int 1)))) (tCons (tDGet (tFld K (tVar 0) "inputs") (tVar 2)) (tCons (tDGet (tFld K (tVar 0) "coins") (tVar 2)) tNil)))) [some (V.ref p), some v, some u] H2 (.bl true) := by
        intro side hside m hm hix eu
        subst eu
        have hself : Ev (tVar 0) [some (V.ref p), some v, some (V.int (side : Int))] H2 (.ref p) := ev_var rfl
        exact ed_call (eda_cons (d := mat m) (ed_ixT (i := (side : Int) + 1) (j := side + 1) (ed_var rfl (hv'.ex e)) (ed_I0 (g := fun i j => i + j) (ed_var (d := .int side) rfl rfl) ed_ci) (by omega) hix)
          (eda_cons (d := .int (Z.sz side)) (ed_i (ev_dgetK (i := (side : Int)) (ev_fld hself (e _ _ hp) S.cl S.nI (shF_inputs _ _)) (ed_var rfl rfl) (e _ _ hd1) (dZ_side _ _ _ hside)))
          (eda_cons (d := .int (Z.cn side)) (ed_i (ev_dgetK (i := (side : Int)) (ev_fld hself (e _ _ hp) S.cl S.nC (shF_coins _ _)) (ed_var rfl rfl) (e _ _ hd2) (dZ_side _ _ _ hside))) eda_nil)))
          ⟨m, _, _, rfl, hm, by have := zok.sz_le side; omega, by have := zok.cn_le side; omega⟩ (fun _ h => h)
      rcases (by
        have := (List.getElem?_eq_some_iff.mp hi).1
        simp at this
        omega : i = 0 ∨ i = 1) with ei | ei
      · subst ei
        have ed : D.int 0 = d := Option.some.inj hi
        subst ed
        exact key 0 (by decide) a w1 rfl hu
      · subst ei
        have ed : D.int 1 = d := Option.some.inj hi
        subst ed
        exact key 1 (by decide) b w2 rfl hu
end
end JH
set_option Elab.async false
set_option maxRecDepth 100000
set_option maxHeartbeats 4000000
/-! check_table, check_tree, check_talk -/
namespace JH
open PySem PySem.Spec PyProof.Rows L2 Evl
section
variable {P : Program} {w : World} {K : PySem.W.Frag} {mg : Str → Option Value} {base : Heap} {C : Addr}
abbrev sp_check_table : Sp := spR (fun ds => ∃ (X Y : Nat) (T : List (List Int)), ds = [mat T] ∧ Sh X Y T ∧ 1 ≤ X ∧ X ≤ 4 ∧ 1 ≤ Y ∧ Y ≤ 4) (fun _ d => d = .non)
abbrev K_check_table (P : Program) (w : World) (K : PySem.W.Frag) (mg : Str → Option Value) (base : Heap) : Prop := Fk P w K mg base "check_table" ["table"] 3 sp_check_table
theorem et_chain {r r' : R2} {σ : L2.St} {H : Hp} {ta tb tc : L2.TE} {x y z : V} {b c : Bool} (h : EvD (tChain r r' ta tb tc) σ H (.bl (b && c))) : EvT (tTest (tChain r r' ta tb tc)) σ H (b && c) := et_b h
theorem sc_check_table : FnScope ["table", "row"] ["table"] (defScope s_check_table) := ⟨rfl, rfl, rfl, by decide +kernel, rfl, by decide +kernel, by decide +kernel⟩
theorem ok_check_table {f : Addr} {fd : FuncData} (F : FnP K "check_table" "check_table" s_check_table f fd) (T : Txt mg) (c_is_listed : K_is_listed P w K mg base) : FnOk P w K mg base CX0 3 f fd ["table"] (sp_check_table) := by
  refine FunD.ok F sc_check_table (fun vs H Q E h => ?_) (fun cdv A outer s H vs Q E hr h => ?_)
  · obtain ⟨ds, hd, ⟨X, Y, M, rfl, _⟩, _⟩ := h
    exact hd.length
  · obtain ⟨ds, hd, ⟨X, Y, M, rfl, sh, x1, x4, y1, y4⟩, k⟩ := h
    obtain ⟨v, rfl, hv⟩ := datL1 hd
    refine ⟨_, PSs.nox (pss_cons (ps_if (PW.pt (pw_or (pt_not (pt_val (pe_callB (k_isi (K := K)) (by rfl) T.isinstance bt_isinstance (pa_cons (pv 0) (pa_cons (pe_bltn (v := .ty "tuple") (by rfl) T.tuple bt_tuple rfl) pa_nil))))) (pw_or (pt_not (pt_chain op_le op_le pe_int (pe_callB (k_len (K := K)) (by rfl) T.len bt_len (pa_cons (pv 0) pa_nil)) (pe_globI T.MOST_LINES))) (pw_or1 (pt_not (pt_val (pe_callB (k_isi (K := K)) (by rfl) T.isinstance bt_isinstance (pa_cons (pe_ix (k_ixT (K := K)) (pv 0) pe_int (fun _ _ => rfl)) (pa_cons (pe_bltn (v := .ty "tuple") (by rfl) T.tuple bt_tuple rfl) pa_nil)))))))))
    pss_never
    pss_nil)
    (pss_one (ps_for PassesOwn.never (by rfl) (k_pT (K := K) (pv 0)) (pgv 1 sc_check_table.nd)
    (pss_cons (ps_if (PW.pt (pw_or (pt_not (pt_val (pe_callB (k_isi (K := K)) (by rfl) T.isinstance bt_isinstance (pa_cons (pv 1) (pa_cons (pe_bltn (v := .ty "tuple") (by rfl) T.tuple bt_tuple rfl) pa_nil))))) (pw_or (pt_not (pt_chain op_le op_le pe_int (pe_callB (k_len (K := K)) (by rfl) T.len bt_len (pa_cons (pv 1) pa_nil)) (pe_globI T.MOST_LINES))) (pw_or1 (pt_cmpR op_ne (pe_callB (k_len (K := K)) (by rfl) T.len bt_len (pa_cons (pv 1) pa_nil)) (pe_callB (k_len (K := K)) (by rfl) T.len bt_len (pa_cons (pe_ix (k_ixT (K := K)) (pv 0) pe_int (fun _ _ => rfl)) pa_nil)) (nomark _))))))
    pss_never
    pss_nil)
    (pss_one (ps_if (pt_not (pt_val (pe_callF c_is_listed hr (by decide) (pa_cons (pv 1) pa_nil))))
    pss_never
    pss_nil)))))), ?_⟩
    obtain ⟨r0, hr0, hl0⟩ := sh.row (i := 0) (by omega)
    have hv' : Dat H (.tup (M.map fun r => D.tup (r.map D.int))) v := hv
    have hz : (M.map fun r => D.tup (r.map D.int))[0]? = some (.tup (r0.map D.int)) := by rw [List.getElem?_map, hr0]; rfl
    have hlen : (M.map fun r => D.tup (r.map D.int)).length = X := by rw [List.length_map, sh.1]
    refine q_when (b := false) (et_is (b := false) (et_or (a := !true) (b := false) (et_not (et_v (ed_isi (d := mat M) (b := true) (ed_var rfl hv) kb_tt))) (fun _ => et_or (a := !(true && true)) (b := false) (et_not ?_) (fun _ => et_not (a := true) (et_v (ed_isi (d := .tup (r0.map D.int)) (b := true) (ed_ixT (j := 0) (ed_var rfl hv') ed_ci rfl hz) kb_tt))))) rfl) (fun z => by cases z) (fun _ H1 e1 => ?_)
    · have hc := ed_chain (σ := [some v, none]) (H := H) (r := rI0 fun i j => .bl (decide (i ≤ j))) (r' := rI0 fun i j => .bl (decide (i ≤ j))) (b := decide ((1 : Int) ≤ ((M.map fun r => D.tup (r.map D.int)).length : Int))) (c := decide (((M.map fun r => D.tup (r.map D.int)).length : Int) ≤ 100)) (ev_c (v := .int 1)) (ev_i (ed_lenT (K := K) (ed_var (i := 0) rfl hv'))) rv_I0 (fun _ => ev_c (v := .int 100)) (fun _ => rv_I0)
      have e1 : (decide ((1 : Int) ≤ ((M.map fun r => D.tup (r.map D.int)).length : Int)) && decide (((M.map fun r => D.tup (r.map D.int)).length : Int) ≤ 100)) = (true && true) := by
        rw [hlen]
        simp
        omega
      rw [e1] at hc
      exact et_b hc
    · refine s_forT (ds := M.map fun r => D.tup (r.map D.int)) (ed_var rfl (hv'.ex e1)) (TL_map _ (fun r => by simp only [D.T]; exact TL_ints r) M) (fun H2 i σ' H' => Ex H2 H' ∧ ∃ x, σ' = [some v, x]) (fun H2 e2 => ⟨Ex.refl H2, _, rfl⟩) (fun H2 i σ' H' _ p => TE.ex p.1) (fun H2 i d u σ' H' e2 hi p hu => ?_) (fun H2 σ' H' e2 p => k _ H' .non ((e1.trans e2).trans p.1) rfl rfl)
      obtain ⟨ex, x, rfl⟩ := p
      obtain ⟨r, hr, rfl⟩ := get_mapM hi
      have hrl : r.length = Y := sh.2 r (List.mem_of_getElem? hr)
      have e := (e1.trans e2).trans ex
      show tSeq _ _ _ _ _
      refine q_when (b := false) (et_is (b := false) (et_or (a := !true) (b := false) (et_not (et_v (ed_isi (d := .tup (r.map D.int)) (b := true) (ed_var rfl hu) kb_tt))) (fun _ => et_or (a := !(true && true)) (b := false) (et_not ?_) (fun _ => et_b (ed_is (ed_neI (i := (Y : Int)) (j := (Y : Int)) (ed_is (ed_lenT (ds := r.map D.int) (ed_var rfl hu)) (by rw [List.length_map, hrl])) (ed_is (ed_lenT (ds := r0.map D.int) (ed_ixT (j := 0) (ed_var rfl (hv'.ex e)) ed_ci rfl hz)) (by rw [List.length_map, hl0]))) (by simp))))) rfl) (fun z => by cases z) (fun _ H3 e3 => ?_)
      · have hc := ed_chain (σ := [some v, some u]) (H := H') (r := rI0 fun i j => .bl (decide (i ≤ j))) (r' := rI0 fun i j => .bl (decide (i ≤ j))) (b := decide ((1 : Int) ≤ ((r.map D.int).length : Int))) (c := decide (((r.map D.int).length : Int) ≤ 100)) (ev_c (v := .int 1)) (ev_i (ed_lenT (K := K) (ed_var (i := 1) rfl hu))) rv_I0 (fun _ => ev_c (v := .int 100)) (fun _ => rv_I0)
        have e1 : (decide ((1 : Int) ≤ ((r.map D.int).length : Int)) && decide (((r.map D.int).length : Int) ≤ 100)) = (true && true) := by
          rw [List.length_map, hrl]
          simp
          omega
        rw [e1] at hc
        exact et_b hc
      · exact s_when (b := !true) (et_not (et_v (ed_call (d := .bl true) (eda_cons (ed_var rfl (hu.ex e3)) eda_nil) ⟨r, rfl, by omega⟩ (fun _ h => h)))) (fun z => by cases z) (fun _ H4 e4 => ⟨ex.trans (e3.trans e4), _, rfl⟩)

def stD (x : Tr × Nat) : D := .tup [x.1.d, .int x.2]
theorem stD_T (x : Tr × Nat) : (stD x).T = true := by simp [stD, D.T, D.TL, Tr.dT]
def stN (st : List (Tr × Nat)) : Nat := (st.map fun x => x.1.num).sum
def sp_check_tree (C : Addr) : Sp := fun vs H Q _ => ∃ p v t Z, vs = [.ref p, v, .bl false] ∧ ShapeAt H p C Z ∧ Dat H (Tr.d t) v ∧ t.WF Z ∧ Z.Ok ∧ t.dep ≤ 100 ∧ t.num ≤ 40000 ∧ ∀ H', Ex H H' → Q .non H'
abbrev K_check_tree (P : Program) (w : World) (K : PySem.W.Frag) (mg : Str → Option Value) (base : Heap) (C : Addr) : Prop := Fk P w K mg base "check_tree" ["shape", "tree", "of_people"] 6 (sp_check_tree C)
abbrev K_is_end_of_people (P : Program) (w : World) (K : PySem.W.Frag) (mg : Str → Option Value) (base : Heap) (C : Addr) : Prop := Fm P w K mg base C "is_end_of_people" ["self", "tree"] 1 (fun _ _ _ _ => False)
theorem Tr.num_pos : ∀ t : Tr, 1 ≤ t.num
  | .fin _ _ => Nat.le_refl _
  | .say _ _ _ _ => Nat.le_add_left _ _
theorem sc_check_tree : FnScope ["shape", "tree", "of_people", "waiting", "seen", "one", "depth"] ["shape", "tree", "of_people"] (defScope s_check_tree) := ⟨rfl, rfl, rfl, by decide +kernel, rfl, by decide +kernel, by decide +kernel⟩
theorem ok_check_tree {f : Addr} {fd : FuncData} (F : FnP K "check_tree" "check_tree" s_check_tree f fd) (T : Txt mg) (c_is_say : K_is_say P w K mg base C) (c_is_end : K_is_end P w K mg base C) (c_is_end_of_people : K_is_end_of_people P w K mg base C) : FnOk P w K mg base CX0 6 f fd ["shape", "tree", "of_people"] (sp_check_tree C) := by
  refine FunD.ok F sc_check_tree (fun vs H Q E h => ?_) (fun cdv A outer s H vs Q E hr h => ?_)
  · obtain ⟨p, v, t, Z, rfl, _⟩ := h
    rfl
  · obtain ⟨p, v, t, Z, rfl, hs, hv, wf, zok, hdep, hnum, k⟩ := h
    refine ⟨_, PSs.nox (pss_cons (psv 3 sc_check_tree.nd (pe_lst (pa_cons (pe_tup (pa_cons (pv 1) (pa_cons pe_int pa_nil))) pa_nil)))
    (pss_cons (psv 4 sc_check_tree.nd pe_int)
    (pss_one (ps_while PassesOwn.never (pt_cmpR op_gt (pe_callB (k_len (K := K)) (by rfl) T.len bt_len (pa_cons (pv 3) pa_nil)) pe_int (nomark _))
    (pss_cons (ps_asg (k_pop (K := K) (pv 3)) (k_gtup (K := K) (by rfl) (pgs_cons (pgv 5 sc_check_tree.nd) (pgs_cons (pgv 6 sc_check_tree.nd) pgs_nil))))
    (pss_cons (psv 4 sc_check_tree.nd (pe_op op_add (pv 4) pe_int))
    (pss_cons (ps_if (PW.pt (pw_or (pt_cmpR op_gt (pv 6) (pe_globI T.MOST_DEPTH) (nomark _)) (pw_or1 (pt_cmpR op_gt (pv 4) (pe_ifExp (pt_val (pv 2)) (pe_globI T.MOST_PEOPLE_TREES) (pe_globI T.MOST_TREES)) (nomark _)))))
    pss_never
    pss_nil)
    (pss_one (ps_if (pt_val (pe_methF c_is_say hr (by decide) (pv 0) (pa_cons (pv 5) pa_nil)))
    (pss_cons (ps_expr (k_append (K := K) (pv 3) (pa_cons (pe_tup (pa_cons (pe_ix (k_ixT (K := K)) (pv 5) pe_int (fun _ _ => rfl)) (pa_cons (pe_op op_add (pv 6) pe_int) pa_nil))) pa_nil)))
    (pss_one (ps_expr (k_append (K := K) (pv 3) (pa_cons (pe_tup (pa_cons (pe_ix (k_ixT (K := K)) (pv 5) pe_int (fun _ _ => rfl)) (pa_cons (pe_op op_add (pv 6) pe_int) pa_nil))) pa_nil)))))
    (pss_one (ps_if (pt_not (pt_ifExp (pt_val (pv 2)) (pt_val (pe_methF c_is_end_of_people hr (by decide) (pv 0) (pa_cons (pv 5) pa_nil))) (pt_val (pe_methF c_is_end hr (by decide) (pv 0) (pa_cons (pv 5) pa_nil)))))
    pss_never
    pss_nil))))))))))), ?_⟩
    refine q_asgN (ds := [stD (t, 1)]) (en_lst (eda_cons (ed_tup (eda_cons (ed_var rfl hv) (eda_cons (d := .int ((1 : Nat) : Int)) ed_ci eda_nil)) (by simp)) eda_nil) (by simp)) fun l vs H1 l0 e1 hl hvs => ?_
    refine q_asg ev_c fun H2 e2 => ?_
    have e12 := e1.trans e2
    refine s_while (fun m σ' H' => ∃ (st : List (Tr × Nat)) (us : List V) (seen : Nat) (one dp : Option V), σ' = [some (V.ref p), some v, some (V.bl false), some (V.ref l), some (V.int seen), one, dp] ∧ Ex H H' ∧ H' l = some (.lst us) ∧ DatL H' (st.map stD) us ∧
      (∀ x ∈ st, x.1.WF Z ∧ x.1.dep + x.2 ≤ 200) ∧ seen + stN st = t.num ∧ m = stN st) t.num ⟨[(t, 1)], vs, 0, none, none, rfl, e12, e2 _ _ hl, hvs.ex e2, ?_, by simp [stN], by simp [stN]⟩ ?_
    · intro x hx
      rw [List.mem_singleton.mp hx]
      exact ⟨wf, by show t.dep + 1 ≤ 200; omega⟩
    rintro m σ' H' ⟨st, us, seen, one, dp, rfl, ex, hus, hst, hall, hsum, rfl⟩
    refine ⟨decide ((0 : Int) < ((st.map stD).length : Int)), et_b (ed_B0 (g := fun i j => decide (j < i)) (ed_lenL (ed_var rfl (Dat.lst hus hst))) ed_ci), fun hb H3 e3 => ?_, fun hb H3 e3 => k H3 (ex.trans e3)⟩
    -- a tree waits: the last one
    rcases List.eq_nil_or_concat st with rfl | ⟨st', x, hx⟩
    · simp at hb
    rw [List.concat_eq_append] at hx
    subst hx
    obtain ⟨t1, k1⟩ := x
    rw [List.map_append] at hst
    have hst3 := hst.ex e3
    have hus3 := e3 _ _ hus
    have ex3 := ex.trans e3
    obtain ⟨wf1, hd1⟩ := hall (t1, k1) (by simp)
    obtain ⟨us', y, rfl, hus', hy⟩ : ∃ us' y, us = us' ++ [y] ∧ DatL H3 (st'.map stD) us' ∧ Dat H3 (stD (t1, k1)) y := by
      have h1 := hst3.take (st'.map stD).length
      have h2 := hst3.drop (st'.map stD).length
      rw [List.take_left] at h1
      rw [List.drop_left] at h2
      obtain ⟨y, h3, h4⟩ := datL1 h2
      exact ⟨_, y, by rw [← h3, List.take_append_drop], h1, h4⟩
    have hle : (us' ++ [y])[(us' ++ [y]).length - 1]? = some y := by simp
    refine ⟨fun σ' H' => ∃ (st : List (Tr × Nat)) (us : List V) (seen : Nat) (one dp : Option V), σ' = [some (V.ref p), some v, some (V.bl false), some (V.ref l), some (V.int seen), one, dp] ∧ Ex H H' ∧ H' l = some (.lst us) ∧ DatL H' (st.map stD) us ∧
      (∀ x ∈ st, x.1.WF Z ∧ x.1.dep + x.2 ≤ 200) ∧ seen + stN st = t.num ∧ stN st < stN (st' ++ [(t1, k1)]), ?_, ?_⟩
    · rintro σ2 H2' ⟨st, us, seen, one, dp, h1, h2, h3, h4, h5, h6, h7⟩
      exact ⟨stN st, h7, st, us, seen, one, dp, h1, h2, h3, h4, h5, h6, rfl⟩
    have hN : stN (st' ++ [(t1, k1)]) = stN st' + t1.num := by simp [stN]
    have te4 : TE H3 (upd H3 l (.lst (us' ++ [y]).dropLast)) := TE.upd hus3
    refine ⟨_, rfl, .inl ⟨rfl, _, SqL.of hus3⟩, l, _, y, rfl, rfl, hus3, hle, ?_⟩
    rw [show (us' ++ [y]).dropLast = us' by simp] at te4 ⊢
    have hus4 : DatL (upd H3 l (.lst us')) (st'.map stD) us' := hus'.te te4 (TL_map _ stD_T _)
    have hy4 : Dat (upd H3 l (.lst us')) (stD (t1, k1)) y := hy.te te4 (stD_T _)
    have ex4 : Ex H (upd H3 l (.lst us')) := Ex.mut ex3 l0
    have hl4 : (upd H3 l (.lst us')) l = some (.lst us') := upd_same
    generalize upd H3 l (.lst us') = H4 at *
    refine g_tup hy4 rfl fun ws hws => ?_
    obtain ⟨u1, u2, rfl, hu1, hu2⟩ := datL2 hws
    have eu2 : u2 = .int k1 := hu2
    subst eu2
    refine ⟨_, _, rfl, _, _, rfl, rfl, ?_⟩
    -- seen = seen + 1
    refine q_asgR (ed_I0 (g := fun i j => i + j) (ed_var (d := .int seen) rfl rfl) ed_ci) fun z H5 e5 hz => ?_
    have ez : z = .int ((seen + 1 : Nat) : Int) := hz
    subst ez
    have pos1 := t1.num_pos
    refine q_when (b := false) (et_is (b := false) (et_or (a := decide ((250 : Int) < (k1 : Int))) (b := decide ((40000 : Int) < ((seen + 1 : Nat) : Int))) (et_b (ed_B0 (g := fun i j => decide (j < i)) (ed_var (d := .int k1) rfl rfl) ed_ci)) (fun _ => et_b (ed_B0 (g := fun i j => decide (j < i)) (ed_var (d := .int ((seen + 1 : Nat) : Int)) rfl rfl) (ed_if (b := false) (et_v (ed_var (d := .bl false) rfl rfl)) (fun z => by cases z) (fun _ => ed_ci))))) (by
        simp only [Bool.or_eq_false_iff, decide_eq_false_iff_not]
        omega)) (fun z => by cases z) (fun _ H6 e6 => ?_)
    have e46 := e5.trans e6
    have shp : ShapeAt H6 p C Z := hs.ex (ex4.trans e46)
    obtain ⟨dx, d1, d2, hp6, _, _⟩ := id shp
    have hu6 := hu1.ex e46
    have hself : Ev (tVar 0) [some (V.ref p), some v, some (V.bl false), some (V.ref l), some (V.int ((seen + 1 : Nat) : Int)), some u1, some (V.int k1)] H6 (.ref p) := ev_var rfl
    refine s_if (b := isSay t1) (et_v (er_meth (R := fun H vs => DatL H [t1.d] vs) hself hp6 (shF_no _ _ (by decide +kernel) (by decide +kernel)) (eda_cons (ed_var rfl hu6) eda_nil) (fun vs H7 e7 r Q q => ?_))) (fun hb H7 e7 => ?_) (fun hb H7 e7 => ?_)
    · obtain ⟨u, rfl, hu⟩ := datL1 r
      exact ⟨p, u, t1, Z, rfl, shp.ex e7, hu, wf1, zok, trivial, fun H8 e8 => q _ H8 e8 rfl⟩
    · cases t1 with
      | fin a b => cases hb
      | say side bits f g =>
        obtain ⟨_, _, _, wf2, wf3⟩ := wf1
        have hu7 : Dat H7 (.tup [.str "say", .int side, mat bits, f.d, g.d]) u1 := hu6.ex e7
        have e47 := e46.trans e7
        simp only [Tr.dep, Tr.num] at hd1 hN
        refine q_appR (xs := us') (R := fun H v => Dat H (stD (g, k1 + 1)) v) (e47 _ _ hl4) (ev_var rfl) (ed_tup (ds := [g.d, .int ((k1 + 1 : Nat) : Int)]) (eda_cons (ed_ixT (j := 4) (ed_var rfl hu7) ed_ci rfl rfl) (eda_cons (d := .int ((k1 + 1 : Nat) : Int)) (ed_I0 (g := fun i j => i + j) (ed_var (d := .int k1) rfl rfl) ed_ci) eda_nil)) (by simp)) ?_ fun y1 H8 e8 hy1 => ?_
        · have := hus4.length
          rw [List.length_map] at this
          have h9 : ∀ s : List (Tr × Nat), s.length ≤ stN s := by
            intro s
            induction s with
            | nil => exact Nat.zero_le _
            | cons c s ih =>
              have := c.1.num_pos
              simp only [stN, List.map_cons, List.sum_cons, List.length_cons] at ih ⊢
              omega
          have := h9 st'
          omega
        have hl8 := e8 _ _ (e47 _ _ hl4)
        have te8 : TE H8 (upd H8 l (.lst (us' ++ [y1]))) := TE.upd hl8
        have hus8 : DatL (upd H8 l (.lst (us' ++ [y1]))) (st'.map stD ++ [stD (g, k1 + 1)]) (us' ++ [y1]) := ((hus4.ex (e47.trans e8)).te te8 (TL_map _ stD_T _)).snoc (hy1.te te8 (stD_T _))
        have hu8 : Dat (upd H8 l (.lst (us' ++ [y1]))) (.tup [.str "say", .int side, mat bits, f.d, g.d]) u1 := (hu7.ex e8).te te8 (Tr.dT (.say side bits f g))
        have ex8 : Ex H (upd H8 l (.lst (us' ++ [y1]))) := Ex.mut (ex4.trans (e47.trans e8)) l0
        have hl8' : (upd H8 l (.lst (us' ++ [y1]))) l = some (.lst (us' ++ [y1])) := upd_same
        generalize upd H8 l (.lst (us' ++ [y1])) = H9 at *
        refine s_appR (xs := us' ++ [y1]) (R := fun H v => Dat H (stD (f, k1 + 1)) v) hl8' (ev_var rfl) (ed_tup (ds := [f.d, .int ((k1 + 1 : Nat) : Int)]) (eda_cons (ed_ixT (j := 3) (ed_var rfl hu8) ed_ci rfl rfl) (eda_cons (d := .int ((k1 + 1 : Nat) : Int)) (ed_I0 (g := fun i j => i + j) (ed_var (d := .int k1) rfl rfl) ed_ci) eda_nil)) (by simp)) ?_ fun y2 H10 e10 hy2 => ?_
        · have := hus4.length
          rw [List.length_map] at this
          rw [List.length_append, List.length_singleton]
          have h9 : ∀ s : List (Tr × Nat), s.length ≤ stN s := by
            intro s
            induction s with
            | nil => exact Nat.zero_le _
            | cons c s ih =>
              have := c.1.num_pos
              simp only [stN, List.map_cons, List.sum_cons, List.length_cons] at ih ⊢
              omega
          have := h9 st'
          omega
        have te10 : TE H10 (upd H10 l (.lst (us' ++ [y1] ++ [y2]))) := TE.upd (e10 _ _ hl8')
        refine ⟨st' ++ [(g, k1 + 1)] ++ [(f, k1 + 1)], us' ++ [y1] ++ [y2], seen + 1, _, _, rfl, Ex.mut (ex8.trans e10) l0, upd_same, ?_, ?_, ?_, ?_⟩
        · rw [List.map_append, List.map_append]
          exact ((hus8.ex e10).te te10 (TL_append (TL_map _ stD_T _) (by simp [D.TL, stD_T]))).snoc (hy2.te te10 (stD_T _))
        · intro x hx
          rw [List.mem_append, List.mem_append, List.mem_singleton, List.mem_singleton] at hx
          rcases hx with (hx | hx) | hx
          · exact hall x (by simp [hx])
          · subst hx
            exact ⟨wf3, by show g.dep + (k1 + 1) ≤ 200; omega⟩
          · subst hx
            exact ⟨wf2, by show f.dep + (k1 + 1) ≤ 200; omega⟩
        · have : stN (st' ++ [(g, k1 + 1)] ++ [(f, k1 + 1)]) = stN st' + g.num + f.num := by simp [stN]; omega
          omega
        · have : stN (st' ++ [(g, k1 + 1)] ++ [(f, k1 + 1)]) = stN st' + g.num + f.num := by simp [stN]; omega
          rw [hN]
          omega
    · refine s_when (b := !true) (et_not (et_ifT (r := true) (b := false) (et_v (ed_var (d := .bl false) rfl rfl)) (fun z => by cases z) (fun _ => et_v (er_meth (R := fun H vs => DatL H [t1.d] vs) (hself.mono e7) (e7 _ _ hp6) (shF_no _ _ (by decide +kernel) (by decide +kernel)) (eda_cons (ed_var rfl (hu6.ex e7)) eda_nil) (fun vs H8 e8 r Q q => ?_))))) (fun z => by cases z) (fun _ H8 e8 => ?_)
      · obtain ⟨u, rfl, hu⟩ := datL1 r
        exact ⟨p, u, t1, Z, rfl, shp.ex (e7.trans e8), hu, wf1, zok, hb, fun H9 e9 => q _ H9 e9 rfl⟩
      · have e48 := e46.trans (e7.trans e8)
        have n1 : t1.num = 1 := by
          cases t1 with
          | fin a b => rfl
          | say _ _ _ _ => cases hb
        exact ⟨st', us', seen + 1, _, _, rfl, ex4.trans e48, e48 _ _ hl4, hus4.ex e48, fun x hx => hall x (by simp [hx]), by omega, by rw [hN]; omega⟩
end
end JH
set_option Elab.async false
set_option maxRecDepth 100000
set_option maxHeartbeats 4000000
/-! check_talk, hold_talk and the law's own search's first steps -/
namespace JH
open PySem PySem.Spec PyProof.Rows L2 Evl
/-- a def over data: its arguments by a, its answer -/
def spP {α : Type} (args : α → List D) (pre : α → Prop) (res : α → D) : Sp := fun vs H Q _ => ∃ a : α, DatL H (args a) vs ∧ pre a ∧ ∀ v H', Ex H H' → Dat H' (res a) v → Q v H'
section
variable {K : PySem.W.Frag} {σ : L2.St} {H : Hp} {ta tb tc : L2.TE}
theorem ed_callP {α : Type} {args : α → List D} {pre : α → Prop} {res : α → D} {E : XK} {t : TA} (a : α) (h : EvDA t σ H (args a)) (hp : pre a) : EvD (tCall (spP args pre res) [] E t) σ H (res a) :=
  er_call h fun vs H1 _ r Q q => ⟨a, by rw [List.append_nil]; exact r, hp, fun v H2 e2 k => q v H2 e2 k⟩
/-- an item of a table -/
theorem ed_cell {m : List (List Int)} {n k i j : Nat} {i' j' : Int} (ha : EvD ta σ H (mat m)) (hb : EvD tb σ H (.int i')) (hc : EvD tc σ H (.int j')) (sh : Sh n k m) (hi : i < n) (hj : j < k) (ei : i' = (i : Int)) (ej : j' = (j : Int)) :
    EvD (tOp (rIxT K) (tOp (rIxT K) ta tb) tc) σ H (.int (get2 m i j)) := by
  obtain ⟨r, h1, h2⟩ := sh.cell hi hj
  have ha' : EvD ta σ H (.tup (m.map fun r => D.tup (r.map D.int))) := ha
  refine ed_ixT (ds := r.map D.int) (j := j) (ed_ixT (j := i) ha' hb ei ?_) hc ej ?_
  · rw [List.getElem?_map, h1]; rfl
  · rw [List.getElem?_map, h2]; rfl
end
theorem ne_es : ¬ (("end" : Str) = "say") := by decide +kernel
theorem ne_se : ¬ (("say" : Str) = "end") := by decide +kernel
def pairD (x y : Nat) : D := .tup [.int x, .int y]
theorem pairD_T (x y : Nat) : (pairD x y).T = true := rfl
theorem pairD_pick (x y side : Nat) (h : side < 2) : [D.int x, D.int y][side]? = some (.int ((pick side x y : Nat) : Int)) := by
  rcases (by omega : side = 0 ∨ side = 1) with e | e
  · subst e; rfl
  · subst e; rfl
/-- a talk of these sizes, held with inputs and coins -/
structure HoldA where
  Z : Sz
  t : Tr
  x : Nat
  y : Nat
  r : Nat
  s : Nat
structure HoldA.Ok (a : HoldA) : Prop where
  z : a.Z.Ok
  wf : a.t.WF a.Z
  dep : a.t.dep ≤ 100
  hx : a.x < a.Z.X
  hy : a.y < a.Z.Y
  hr : a.r < a.Z.c0
  hs : a.s < a.Z.c1
def HoldA.run (a : HoldA) : List Int × (Int × Int) := a.t.run a.x a.y a.r a.s
def heldD (q : List Int × (Int × Int)) : D := .tup [bitsD q.1, .tup [.int q.2.1, .int q.2.2]]
theorem heldD_T (q : List Int × (Int × Int)) : (heldD q).T = true := by simp [heldD, D.T, D.TL, bitsD, TL_ints]
abbrev sp_hold : Sp := spP (fun a : HoldA => [talkD a.Z a.t, pairD a.x a.y, pairD a.r a.s]) HoldA.Ok (fun a => heldD a.run)
section
variable {P : Program} {w : World} {K : PySem.W.Frag} {mg : Str → Option Value} {base : Heap} {C : Addr}
abbrev K_hold_talk (P : Program) (w : World) (K : PySem.W.Frag) (mg : Str → Option Value) (base : Heap) : Prop := Fk P w K mg base "hold_talk" ["talk", "inputs", "coins"] 1 sp_hold
abbrev K_law_held (P : Program) (w : World) (K : PySem.W.Frag) (mg : Str → Option Value) (base : Heap) : Prop := Fk P w K mg base "_law_held" ["_law_talk", "_law_inputs_here", "_law_coins"] 1 sp_hold
theorem pick_lt {Z : Sz} {side x y : Nat} (hx : x < Z.X) (hy : y < Z.Y) : pick side x y < Z.sz side := by
  unfold pick Sz.sz
  by_cases e : side = 0
  · simp only [if_pos e]; exact hx
  · simp only [if_neg e]; exact hy
theorem pick_lc {Z : Sz} {side x y : Nat} (hx : x < Z.c0) (hy : y < Z.c1) : pick side x y < Z.cn side := by
  unfold pick Sz.cn
  by_cases e : side = 0
  · simp only [if_pos e]; exact hx
  · simp only [if_neg e]; exact hy
theorem sc_hold_talk : FnScope ["talk", "inputs", "coins", "tree", "bits", "side", "bit"] ["talk", "inputs", "coins"] (defScope s_hold_talk) := ⟨rfl, rfl, rfl, by decide +kernel, rfl, by decide +kernel, by decide +kernel⟩
theorem ok_hold_talk {f : Addr} {fd : FuncData} (F : FnP K "hold_talk" "hold_talk" s_hold_talk f fd) (T : Txt mg)  : FnOk P w K mg base CX0 1 f fd ["talk", "inputs", "coins"] (sp_hold) := by
  refine FunD.ok F sc_hold_talk (fun vs H Q E h => ?_) (fun cdv A outer s H vs Q E hr h => ?_)
  · obtain ⟨a, hd, _⟩ := h
    exact hd.length
  · obtain ⟨⟨Z, t, x, y, r, s2⟩, hd, ⟨zok, wf, hdep, hx, hy, hr2, hs⟩, k⟩ := h
    simp only at zok wf hdep hx hy hr2 hs
    obtain ⟨v1, v2, v3, rfl, h1, h2, h3⟩ := datL3 hd
    refine ⟨_, PSs.nox (pss_cons (psv 3 sc_hold_talk.nd (pe_ix (k_ixT (K := K)) (pv 0) pe_int (fun _ _ => rfl)))
    (pss_cons (psv 4 sc_hold_talk.nd (pe_lst pa_nil))
    (pss_cons (ps_while PassesOwn.never (pt_cmpR op_eq (pe_ix (k_ixT (K := K)) (pv 3) pe_int (fun _ _ => rfl)) pe_str (nomark _))
    (pss_cons (psv 5 sc_hold_talk.nd (pe_ix (k_ixT (K := K)) (pv 3) pe_int (fun _ _ => rfl)))
    (pss_cons (psv 6 sc_hold_talk.nd (pe_ix (k_ixT (K := K)) (pe_ix (k_ixT (K := K)) (pe_ix (k_ixT (K := K)) (pv 3) pe_int (fun _ _ => rfl)) (pe_ix (k_ixT (K := K)) (pv 1) (pv 5) (fun _ _ => rfl)) (fun _ _ => rfl)) (pe_ix (k_ixT (K := K)) (pv 2) (pv 5) (fun _ _ => rfl)) (fun _ _ => rfl)))
    (pss_cons (ps_expr (k_append (K := K) (pv 4) (pa_cons (pv 6) pa_nil)))
    (pss_one (psv 3 sc_hold_talk.nd (pe_ix (k_ixT (K := K)) (pv 3) (pe_op op_add pe_int (pv 6)) (fun _ _ => rfl))))))))
    (pss_one (ps_ret (pe_tup (pa_cons (pe_callTy (k_tuple (K := K)) (by rfl) T.tuple bt_tuple (pa_cons (pv 4) pa_nil)) (pa_cons (pe_tup (pa_cons (pe_ix (k_ixT (K := K)) (pe_ix (k_ixT (K := K)) (pe_ix (k_ixT (K := K)) (pv 3) pe_int (fun _ _ => rfl)) (pe_ix (k_ixT (K := K)) (pv 1) pe_int (fun _ _ => rfl)) (fun _ _ => rfl)) (pe_ix (k_ixT (K := K)) (pv 2) pe_int (fun _ _ => rfl)) (fun _ _ => rfl)) (pa_cons (pe_ix (k_ixT (K := K)) (pe_ix (k_ixT (K := K)) (pe_ix (k_ixT (K := K)) (pv 3) pe_int (fun _ _ => rfl)) (pe_ix (k_ixT (K := K)) (pv 1) pe_int (fun _ _ => rfl)) (fun _ _ => rfl)) (pe_ix (k_ixT (K := K)) (pv 2) pe_int (fun _ _ => rfl)) (fun _ _ => rfl)) pa_nil))) pa_nil)))))))), ?_⟩
    refine q_asgR (ed_ixT (d := t.d) (ds := [.str "talk", .int Z.c0, .int Z.c1, t.d]) (j := 3) (ed_var rfl h1) ed_ci rfl rfl) fun v H1 e1 hv => ?_
    refine q_asgN (ds := []) (en_lst eda_nil (by simp)) fun l vs H2 l0 e2 hl hvs => ?_
    have e12 := e1.trans e2
    have lH : H l = none := fresh_back e1 l0
    have evs : vs = [] := hvs
    subst evs
    refine q_while (fun m σ' H' => ∃ (t' : Tr) (bs : List Int) (u : V) (o1 o2 : Option V), σ' = [some v1, some v2, some v3, some u, some (.ref l), o1, o2] ∧ Ex H H' ∧ H' l = some (.lst (bs.map .int)) ∧ Dat H' t'.d u ∧ t'.WF Z ∧
      bs ++ (t'.run x y r s2).1 = (t.run x y r s2).1 ∧ (t'.run x y r s2).2 = (t.run x y r s2).2 ∧ m = t'.dep ∧ bs.length + t'.dep ≤ 100) t.dep ⟨t, [], v, none, none, rfl, e12, hl, hv.ex e2, wf, rfl, rfl, rfl, by simpa using hdep⟩ ?_
    rintro m σ' H' ⟨t', bs, u, o1, o2, rfl, ex, hbs, hu, wf', er1, er2, rfl, hlen⟩
    cases t' with
    | fin a b =>
      have hu' : Dat H' (.tup [.str "end", mat a, mat b]) u := hu
      obtain ⟨w1, w2⟩ := wf'
      refine ⟨false, et_b (ed_is (ed_eqS (i := "end") (j := "say") (ed_ixT (j := 0) (ed_var rfl hu') ed_ci rfl rfl) ed_cs) (by rw [decide_eq_false ne_es])), (fun z => by cases z), fun _ H3 e3 => ?_⟩
      have ex3 := ex.trans e3
      refine s_retD (d := heldD (bs, (get2 a x r, get2 b y s2))) (ed_tup (eda_cons (d := bitsD bs) (ed_tupleL (ds := bs.map D.int) (ed_var rfl (Dat.lst (e3 _ _ hbs) (DatL.ints bs)))) (eda_cons (ed_tup (eda_cons
        (ed_cell (m := a) (i := x) (j := r) (ed_ixT (j := 1) (ed_var rfl (hu'.ex e3)) ed_ci rfl rfl) (ed_ixT (ds := [.int x, .int y]) (j := 0) (ed_var rfl (h2.ex ex3)) ed_ci rfl rfl) (ed_ixT (ds := [.int r, .int s2]) (j := 0) (ed_var rfl (h3.ex ex3)) ed_ci rfl rfl) w1 hx hr2 rfl rfl)
        (eda_cons (ed_cell (m := b) (i := y) (j := s2) (ed_ixT (j := 2) (ed_var rfl (hu'.ex e3)) ed_ci rfl rfl) (ed_ixT (ds := [.int x, .int y]) (j := 1) (ed_var rfl (h2.ex ex3)) ed_ci rfl rfl) (ed_ixT (ds := [.int r, .int s2]) (j := 1) (ed_var rfl (h3.ex ex3)) ed_ci rfl rfl) w2 hy hs rfl rfl) eda_nil)) (by simp)) eda_nil)) (by simp)) (fun z H4 e4 hz => k z H4 (ex3.trans e4) ?_)
      have e : (bs, (get2 a x r, get2 b y s2)) = HoldA.run ⟨Z, t, x, y, r, s2⟩ := by
        show _ = t.run x y r s2
        simp only [Tr.run] at er1 er2
        rw [List.append_nil] at er1
        exact Prod.ext er1 er2
      show Dat H4 (heldD (HoldA.run ⟨Z, t, x, y, r, s2⟩)) z
      rw [← e]
      exact hz
    | say side bits f g =>
      obtain ⟨w1, w2, w3, w4, w5⟩ := wf'
      have hu' : Dat H' (.tup [.str "say", .int side, mat bits, f.d, g.d]) u := hu
      refine ⟨true, et_b (ed_is (ed_eqS (i := "say") (j := "say") (ed_ixT (j := 0) (ed_var rfl hu') ed_ci rfl rfl) ed_cs) (by simp)), fun _ H3 e3 => ?_, (fun z => by cases z)⟩
      refine ⟨fun σ2 H2' => ∃ m', m' < (Tr.say side bits f g).dep ∧ ∃ (t' : Tr) (bs : List Int) (u : V) (o1 o2 : Option V), σ2 = [some v1, some v2, some v3, some u, some (.ref l), o1, o2] ∧ Ex H H2' ∧ H2' l = some (.lst (bs.map .int)) ∧ Dat H2' t'.d u ∧ t'.WF Z ∧
        bs ++ (t'.run x y r s2).1 = (t.run x y r s2).1 ∧ (t'.run x y r s2).2 = (t.run x y r s2).2 ∧ m' = t'.dep ∧ bs.length + t'.dep ≤ 100, fun σ2 H2' z => z, ?_⟩
      have ex3 := ex.trans e3
      have hu3 := hu'.ex e3
      refine q_asgR (ed_ixT (d := .int side) (j := 1) (ed_var rfl hu3) ed_ci rfl rfl) fun z H4 e4 hz => ?_
      have ez : z = .int side := hz
      subst ez
      have ex4 := ex3.trans e4
      have hu4 := hu3.ex e4
      refine q_asgR (ed_cell (K := K) (m := bits) (i := pick side x y) (j := pick side r s2) (ed_ixT (j := 2) (ed_var rfl hu4) ed_ci rfl rfl) (ed_ixT (j := side) (ed_var rfl (h2.ex ex4)) (ed_var (d := .int side) rfl rfl) rfl (pairD_pick x y side w1)) (ed_ixT (j := side) (ed_var rfl (h3.ex ex4)) (ed_var (d := .int side) rfl rfl) rfl (pairD_pick r s2 side w1)) w2 (pick_lt hx hy) (pick_lc hr2 hs) rfl rfl) fun z H5 e5 hz => ?_
      have hbit := get2_bit w3 w2 (pick_lt hx hy) (pick_lc (Z := Z) (side := side) hr2 hs)
      simp only [Tr.run] at er1 er2
      simp only [Tr.dep] at hlen ⊢
      generalize get2 bits (pick side x y) (pick side r s2) = b at *
      have ez : z = .int b := hz
      subst ez
      have ex5 := ex4.trans e5
      have e35 := e3.trans (e4.trans e5)
      refine q_app (xs := bs.map V.int) (v := .int b) (e35 _ _ hbs) (ev_var rfl) (ev_var rfl) (by rw [List.length_map]; omega) fun H6 e6 => ?_
      have hl6 := e6 _ _ (e35 _ _ hbs)
      have te6 : TE H6 (upd H6 l (.lst (bs.map V.int ++ [.int b]))) := TE.upd hl6
      have hu7 : Dat (upd H6 l (.lst (bs.map V.int ++ [.int b]))) (.tup [.str "say", .int side, mat bits, f.d, g.d]) u := ((hu4.ex e5).ex e6).te te6 (Tr.dT (.say side bits f g))
      have ex7 : Ex H (upd H6 l (.lst (bs.map V.int ++ [.int b]))) := Ex.mut (ex5.trans e6) lH
      have hl7 : (upd H6 l (.lst (bs.map V.int ++ [.int b]))) l = some (.lst ((bs ++ [b]).map .int)) := by rw [upd_same, List.map_append]; rfl
      generalize upd H6 l (.lst (bs.map V.int ++ [.int b])) = H7 at *
      have key : ∀ t1 : Tr, t1 = (if b = 0 then f else g) → [D.str "say", .int side, mat bits, f.d, g.d][(3 + b).toNat]? = some t1.d → t1.WF Z → t1.dep ≤ max f.dep g.dep → tAsg (tOp (rIxT K) (tVar 3) (tOp (rI0 fun i j => .int (i + j)) (tC (.int 3)) (tVar 6))) (gName 3)
          { nx := fun σ2 H2' => ∃ m', m' < max f.dep g.dep + 1 ∧ ∃ (t' : Tr) (bs : List Int) (u : V) (o1 o2 : Option V), σ2 = [some v1, some v2, some v3, some u, some (.ref l), o1, o2] ∧ Ex H H2' ∧ H2' l = some (.lst (bs.map .int)) ∧ Dat H2' t'.d u ∧ t'.WF Z ∧
            bs ++ (t'.run x y r s2).1 = (t.run x y r s2).1 ∧ (t'.run x y r s2).2 = (t.run x y r s2).2 ∧ m' = t'.dep ∧ bs.length + t'.dep ≤ 100, rt := Q }
          [some v1, some v2, some v3, some u, some (.ref l), some (.int side), some (.int b)] H7 := by
        intro t1 et hix hw hdp
        refine s_asgR (ed_ixT (d := t1.d) (i := 3 + b) (j := (3 + b).toNat) (ed_var rfl hu7) (ed_I0 (g := fun i j => i + j) ed_ci (ed_var (d := .int b) rfl rfl)) (by omega) hix) fun z H8 e8 hz => ?_
        refine ⟨t1.dep, by omega, t1, bs ++ [b], z, _, _, rfl, ex7.trans e8, e8 _ _ hl7, hz, hw, ?_, ?_, rfl, by rw [List.length_append, List.length_singleton]; omega⟩
        · rw [← er1, et, List.append_assoc]
          split <;> rfl
        · rw [← er2, et]
          split <;> rfl
      rcases hbit with e | e
      · exact key f (by rw [if_pos e]) (by rw [e]; rfl) w4 (by omega)
      · exact key g (by rw [if_neg (by omega)]) (by rw [e]; rfl) w5 (by omega)
theorem sc_law_held : FnScope ["_law_talk", "_law_inputs_here", "_law_coins", "_law_tree", "_law_bits_here", "_law_turn", "_law_bit"] ["_law_talk", "_law_inputs_here", "_law_coins"] (defScope s_law_held) := ⟨rfl, rfl, rfl, by decide +kernel, rfl, by decide +kernel, by decide +kernel⟩
theorem ok_law_held {f : Addr} {fd : FuncData} (F : FnP K "_law_held" "_law_held" s_law_held f fd) (T : Txt mg)  : FnOk P w K mg base CX0 1 f fd ["_law_talk", "_law_inputs_here", "_law_coins"] (sp_hold) := by
  refine FunD.ok F sc_law_held (fun vs H Q E h => ?_) (fun cdv A outer s H vs Q E hr h => ?_)
  · obtain ⟨a, hd, _⟩ := h
    exact hd.length
  · obtain ⟨⟨Z, t, x, y, r, s2⟩, hd, ⟨zok, wf, hdep, hx, hy, hr2, hs⟩, k⟩ := h
    simp only at zok wf hdep hx hy hr2 hs
    obtain ⟨v1, v2, v3, rfl, h1, h2, h3⟩ := datL3 hd
    refine ⟨_, PSs.nox (pss_cons (psv 3 sc_law_held.nd (pe_ix (k_ixT (K := K)) (pv 0) pe_int (fun _ _ => rfl)))
    (pss_cons (psv 4 sc_law_held.nd (pe_tup pa_nil))
    (pss_cons (ps_for PassesOwn.never (by rfl) (pi_range1 (by rfl) T.range (pa_cons pe_int pa_nil)) (pgv 5 sc_law_held.nd)
    (pss_cons (ps_if (pt_cmpR op_eq (pe_ix (k_ixT (K := K)) (pv 3) pe_int (fun _ _ => rfl)) pe_str (nomark _))
    (pss_one (ps_ret (pe_tup (pa_cons (pv 4) (pa_cons (pe_tup (pa_cons (pe_ix (k_ixT (K := K)) (pe_ix (k_ixT (K := K)) (pe_ix (k_ixT (K := K)) (pv 3) pe_int (fun _ _ => rfl)) (pe_ix (k_ixT (K := K)) (pv 1) pe_int (fun _ _ => rfl)) (fun _ _ => rfl)) (pe_ix (k_ixT (K := K)) (pv 2) pe_int (fun _ _ => rfl)) (fun _ _ => rfl)) (pa_cons (pe_ix (k_ixT (K := K)) (pe_ix (k_ixT (K := K)) (pe_ix (k_ixT (K := K)) (pv 3) pe_int (fun _ _ => rfl)) (pe_ix (k_ixT (K := K)) (pv 1) pe_int (fun _ _ => rfl)) (fun _ _ => rfl)) (pe_ix (k_ixT (K := K)) (pv 2) pe_int (fun _ _ => rfl)) (fun _ _ => rfl)) pa_nil))) pa_nil)))))
    pss_nil)
    (pss_cons (psv 6 sc_law_held.nd (pe_ix (k_ixT (K := K)) (pe_ix (k_ixT (K := K)) (pe_ix (k_ixT (K := K)) (pv 3) pe_int (fun _ _ => rfl)) (pe_ix (k_ixT (K := K)) (pv 1) (pe_ix (k_ixT (K := K)) (pv 3) pe_int (fun _ _ => rfl)) (fun _ _ => rfl)) (fun _ _ => rfl)) (pe_ix (k_ixT (K := K)) (pv 2) (pe_ix (k_ixT (K := K)) (pv 3) pe_int (fun _ _ => rfl)) (fun _ _ => rfl)) (fun _ _ => rfl)))
    (pss_cons (psv 4 sc_law_held.nd (pe_op (k_catA (K := K)) (pv 4) (pe_tup (pa_cons (pv 6) pa_nil))))
    (pss_one (psv 3 sc_law_held.nd (pe_ix (k_ixT (K := K)) (pv 3) (pe_op op_add pe_int (pv 6)) (fun _ _ => rfl))))))))
    (pss_one (ps_ret pe_non))))), ?_⟩
    refine q_asgR (ed_ixT (d := t.d) (ds := [.str "talk", .int Z.c0, .int Z.c1, t.d]) (j := 3) (ed_var rfl h1) ed_ci rfl rfl) fun v H1 e1 hv => ?_
    refine q_asgR (ed_tup (ds := []) eda_nil (by simp)) fun v' H2 e2 hv' => ?_
    have e12 := e1.trans e2
    refine q_forR (n := 300) ed_ci (by decide) (fun i σ' H' => ∃ (t' : Tr) (bs : List Int) (u u' : V) (o1 o2 : Option V), σ' = [some v1, some v2, some v3, some u, some u', o1, o2] ∧ Ex H H' ∧ Dat H' (bitsD bs) u' ∧ Dat H' t'.d u ∧ t'.WF Z ∧
      bs ++ (t'.run x y r s2).1 = (t.run x y r s2).1 ∧ (t'.run x y r s2).2 = (t.run x y r s2).2 ∧ t'.dep + i ≤ 100 ∧ bs.length ≤ i) (fun H3 e3 => ⟨t, [], v, v', none, none, rfl, e12.trans e3, hv'.ex e3, (hv.ex e2).ex e3, wf, rfl, rfl, by simpa using hdep, Nat.le_refl _⟩) ?_ ?_
    · rintro i σ' H' hi ⟨t', bs, u, u', o1, o2, rfl, ex, hbs, hu, wf', er1, er2, hdp, hln⟩
      cases t' with
      | fin a b =>
        have hu' : Dat H' (.tup [.str "end", mat a, mat b]) u := hu
        obtain ⟨w1, w2⟩ := wf'
        refine q_when (b := true) (et_b (ed_is (ed_eqS (i := "end") (j := "end") (ed_ixT (j := 0) (ed_var rfl hu') ed_ci rfl rfl) ed_cs) (by simp))) (fun _ H3 e3 => ?_) (fun z => by cases z)
        have ex3 := ex.trans e3
        refine s_retD (d := heldD (bs, (get2 a x r, get2 b y s2))) (ed_tup (eda_cons (d := bitsD bs) (ed_var rfl (hbs.ex e3)) (eda_cons (ed_tup (eda_cons
          (ed_cell (m := a) (i := x) (j := r) (ed_ixT (j := 1) (ed_var rfl (hu'.ex e3)) ed_ci rfl rfl) (ed_ixT (ds := [.int x, .int y]) (j := 0) (ed_var rfl (h2.ex ex3)) ed_ci rfl rfl) (ed_ixT (ds := [.int r, .int s2]) (j := 0) (ed_var rfl (h3.ex ex3)) ed_ci rfl rfl) w1 hx hr2 rfl rfl)
          (eda_cons (ed_cell (m := b) (i := y) (j := s2) (ed_ixT (j := 2) (ed_var rfl (hu'.ex e3)) ed_ci rfl rfl) (ed_ixT (ds := [.int x, .int y]) (j := 1) (ed_var rfl (h2.ex ex3)) ed_ci rfl rfl) (ed_ixT (ds := [.int r, .int s2]) (j := 1) (ed_var rfl (h3.ex ex3)) ed_ci rfl rfl) w2 hy hs rfl rfl) eda_nil)) (by simp)) eda_nil)) (by simp)) (fun z H4 e4 hz => k z H4 (ex3.trans e4) ?_)
        have e : (bs, (get2 a x r, get2 b y s2)) = HoldA.run ⟨Z, t, x, y, r, s2⟩ := by
          show _ = t.run x y r s2
          simp only [Tr.run] at er1 er2
          rw [List.append_nil] at er1
          exact Prod.ext er1 er2
        show Dat H4 (heldD (HoldA.run ⟨Z, t, x, y, r, s2⟩)) z
        rw [← e]
        exact hz
      | say side bits f g =>
        obtain ⟨w1, w2, w3, w4, w5⟩ := wf'
        have hu' : Dat H' (.tup [.str "say", .int side, mat bits, f.d, g.d]) u := hu
        refine q_when (b := false) (et_b (ed_is (ed_eqS (i := "say") (j := "end") (ed_ixT (j := 0) (ed_var rfl hu') ed_ci rfl rfl) ed_cs) (by rw [decide_eq_false ne_se]))) (fun z => by cases z) (fun _ H3 e3 => ?_)
        have ex3 := ex.trans e3
        have hu3 := hu'.ex e3
        refine q_asgR (ed_cell (K := K) (m := bits) (i := pick side x y) (j := pick side r s2) (ed_ixT (j := 2) (ed_var rfl hu3) ed_ci rfl rfl) (ed_ixT (i := (side : Int)) (j := side) (ed_var rfl (h2.ex ex3)) (ed_ixT (d := .int side) (j := 1) (ed_var rfl hu3) ed_ci rfl rfl) rfl (pairD_pick x y side w1)) (ed_ixT (i := (side : Int)) (j := side) (ed_var rfl (h3.ex ex3)) (ed_ixT (d := .int side) (j := 1) (ed_var rfl hu3) ed_ci rfl rfl) rfl (pairD_pick r s2 side w1)) w2 (pick_lt hx hy) (pick_lc hr2 hs) rfl rfl) fun z H5 e5 hz => ?_
        have hbit := get2_bit w3 w2 (pick_lt hx hy) (pick_lc (Z := Z) (side := side) hr2 hs)
        simp only [Tr.run] at er1 er2
        simp only [Tr.dep] at hdp
        generalize get2 bits (pick side x y) (pick side r s2) = b at *
        have ez : z = .int b := hz
        subst ez
        have ex5 := ex3.trans e5
        have hu5 := hu3.ex e5
        have hb5 := (hbs.ex e3).ex e5
        refine q_asgR (R := fun H v => Dat H (bitsD (bs ++ [b])) v) ?_ fun z H6 e6 hz => ?_
        · -- bits + (bit,)
          intro H6 e6 Q' q'
          obtain ⟨pa, ws, rfl, hpa, hws⟩ := hb5.ex e6
          have ews := DatL.of_ints hws
          subst ews
          refine ⟨_, rfl, ⟨_, rfl, by show 1 ≤ sizeLine; decide, fun pb hpb => ?_⟩⟩
          have hpa' : (upd H6 pb (.tup [V.int b])) pa = some (.tup (bs.map V.int)) := by rw [upd_ne (ne_of_none hpa hpb)]; exact hpa
          refine ⟨pa, pb, bs.map V.int, [V.int b], rfl, rfl, SqT.of hpa', SqT.of upd_same, sz_of (by rw [List.length_map, List.length_singleton]; omega), fun en => ?_, (fun _ z => by cases z), fun en _ p hp => ?_⟩
          · have ebs : bs = [] := by simpa using en
            subst ebs
            exact q' _ _ (Ex.new hpb) (Dat.tup upd_same (DatL.ints [b]))
          · refine q' _ _ ((Ex.new hpb).trans (Ex.new hp)) (Dat.tup upd_same ?_)
            have := DatL.ints (H := upd (upd H6 pb (.tup [V.int b])) p (.tup (bs.map V.int ++ [V.int b]))) (bs ++ [b])
            rw [List.map_append, List.map_append] at this
            rw [List.map_append]
            exact this
        have ex6 := ex5.trans e6
        have hu6 := hu5.ex e6
        have key : ∀ t1 : Tr, t1 = (if b = 0 then f else g) → [D.str "say", .int side, mat bits, f.d, g.d][(3 + b).toNat]? = some t1.d → t1.WF Z → t1.dep ≤ max f.dep g.dep → ∀ (N : L2.St → Hp → Prop) (DD : Ends), DD.nx = N →
            (∀ σ' H', (∃ (t' : Tr) (bs : List Int) (u u' : V) (o1 o2 : Option V), σ' = [some v1, some v2, some v3, some u, some u', o1, o2] ∧ Ex H H' ∧ Dat H' (bitsD bs) u' ∧ Dat H' t'.d u ∧ t'.WF Z ∧
              bs ++ (t'.run x y r s2).1 = (t.run x y r s2).1 ∧ (t'.run x y r s2).2 = (t.run x y r s2).2 ∧ t'.dep + (i + 1) ≤ 100 ∧ bs.length ≤ i + 1) → N σ' H') → tAsg (tOp (rIxT K) (tVar 3) (tOp (rI0 fun i j => .int (i + j)) (tC (.int 3)) (tVar 6))) (gName 3) DD
            [some v1, some v2, some v3, some u, some z, some (.int i), some (.int b)] H6 := by
          intro t1 et hix hw hdp1 N DD eN kN
          refine s_asgR (ed_ixT (d := t1.d) (i := 3 + b) (j := (3 + b).toNat) (ed_var rfl hu6) (ed_I0 (g := fun i j => i + j) ed_ci (ed_var (d := .int b) rfl rfl)) (by omega) hix) fun z' H8 e8 hz' => ?_
          rw [eN]
          refine kN _ _ ⟨t1, bs ++ [b], z', z, _, _, rfl, ex6.trans e8, hz.ex e8, hz', hw, ?_, ?_, by omega, by rw [List.length_append, List.length_singleton]; omega⟩
          · rw [← er1, et, List.append_assoc]
            split <;> rfl
          · rw [← er2, et]
            split <;> rfl
        rcases hbit with e | e
        · exact key f (by rw [if_pos e]) (by rw [e]; rfl) w4 (by omega) _ _ rfl (fun _ _ h => h)
        · exact key g (by rw [if_neg (by omega)]) (by rw [e]; rfl) w5 (by omega) _ _ rfl (fun _ _ h => h)
    · rintro σ' H' ⟨t', bs, u, u', o1, o2, rfl, ex, hbs, hu, wf', er1, er2, hdp, hln⟩
      omega
end
end JH
set_option Elab.async false
set_option maxRecDepth 100000
set_option maxHeartbeats 4000000
/-! check_talk, pairs, answers, the law's sameness -/
namespace JH
open PySem PySem.Spec PyProof.Rows L2 Evl
section
variable {K : PySem.W.Frag} {σ : L2.St} {H : Hp} {ta tb tc td : L2.TE}
theorem er_disp2 {a b : Nat} (h0 : EvD ta σ H (.int 0)) (ha : EvD tb σ H (.int a)) (h1 : EvD tc σ H (.int 1)) (hb : EvD td σ H (.int b)) : EvR (tDisp [(ta, tb), (tc, td)]) σ H fun H v => ∃ p, v = .ref p ∧ H p = some (.dK (dZ a b)) := fun H1 e1 Q q p hp => by
  have e2 : Ex H (upd H1 p (.dK [])) := e1.trans (Ex.new hp)
  refine ev_i h0 _ e2 _ fun H3 e3 => ev_i ha H3 (e2.trans e3) _ fun H4 e4 => ev_i h1 H4 ((e2.trans e3).trans e4) _ fun H5 e5 => ev_i hb H5 (((e2.trans e3).trans e4).trans e5) _ fun H6 e6 => ?_
  have e26 := ((e3.trans e4).trans e5).trans e6
  refine ⟨e26 p _ upd_same, [(.inl 0, .int a), (.inl 1, .int b)], rfl, by simp, ?_⟩
  refine q _ _ ?_ ⟨p, rfl, upd_same⟩
  exact Ex.mut ((Ex.new hp).trans e26) hp
end
theorem q_make {C : Addr} {sp : Sp} {E : XK} {t : TA} {i : Nat} {tz : TS} {DD : Ends} {R : Hp → List V → Prop} (h : EvRA t σ H R)
    (hs : ∀ vs H1 x dx, Ex H H1 → R H1 vs → H1 x = none → H1 dx = none → dx ≠ x → sp (.ref x :: (vs ++ [])) (upd (upd H1 dx (.own x)) x (.ins C dx [])) (fun v H2 => v = .non ∧ tz DD (σ.set i (some (.ref x))) H2) E) : tSeq (tAsg (tMake C sp [] E t) (gName i)) tz DD σ H :=
  h H (Ex.refl H) _ fun vs H1 e r x dx nx ndx nex => hs vs H1 x dx e r nx ndx nex
theorem dz_mono {a b : Nat} : ∀ (H1 H2 : Hp) (v : V), Ex H1 H2 → (∃ p, v = V.ref p ∧ H1 p = some (.dK (dZ a b))) → ∃ p, v = V.ref p ∧ H2 p = some (.dK (dZ a b)) := fun _ _ _ e ⟨p, h1, h2⟩ => ⟨p, h1, e _ _ h2⟩
structure TalkA where
  Z : Sz
  t : Tr
  M : List (List Int)
structure TalkA.Ok (a : TalkA) : Prop where
  z : a.Z.Ok
  wf : a.t.WF a.Z
  dep : a.t.dep ≤ 8
  sh : Sh a.Z.X a.Z.Y a.M
def TalkA.args (a : TalkA) : List D := [talkD a.Z a.t, mat a.M]
theorem lenM {X Y : Nat} {M : List (List Int)} (sh : Sh X Y M) : ((M.map fun r => D.tup (r.map D.int)).length : Int) = (X : Int) := by rw [List.length_map, sh.1]
def ans (M : List (List Int)) (side own other : Nat) : Int := if side = 0 then get2 M own other else get2 M other own
structure AnsA where
  Z : Sz
  M : List (List Int)
  side : Nat
  own : Nat
  other : Nat
structure AnsA.Ok (a : AnsA) : Prop where
  sh : Sh a.Z.X a.Z.Y a.M
  s2 : a.side < 2
  ho : a.own < a.Z.sz a.side
  ht : a.other < a.Z.sz (1 - a.side)
def AnsA.args (a : AnsA) : List D := [mat a.M, .int a.side, .int a.own, .int a.other]
abbrev sp_ans : Sp := spP AnsA.args AnsA.Ok (fun a => .int (ans a.M a.side a.own a.other))
/-- numbers, texts, tuples of such to a depth -/
def D.sm : Nat → D → Bool
  | _, .int _ => true
  | _, .str _ => true
  | n + 1, .tup l => l.all (D.sm n) && decide (l.length ≤ 1000)
  | _, _ => false
def sp_same : Nat → Sp
  | 0 => fun _ _ _ _ => False
  | n + 1 => spP (fun d : D => [d, d]) (fun d => D.sm n d = true) (fun _ => .bl true)
section
variable {P : Program} {w : World} {K : PySem.W.Frag} {mg : Str → Option Value} {base : Heap} {C : Addr}
abbrev sp_check_talk : Sp := spP TalkA.args TalkA.Ok (fun _ => .non)
abbrev K_check_talk (P : Program) (w : World) (K : PySem.W.Frag) (mg : Str → Option Value) (base : Heap) : Prop := Fk P w K mg base "check_talk" ["talk", "table"] 7 sp_check_talk
theorem sc_check_talk : FnScope ["talk", "table", "shape"] ["talk", "table"] (defScope s_check_talk) := ⟨rfl, rfl, rfl, by decide +kernel, rfl, by decide +kernel, by decide +kernel⟩
theorem ok_check_talk {f : Addr} {fd : FuncData} (F : FnP K "check_talk" "check_talk" s_check_talk f fd) (T : Txt mg) (c_check_table : K_check_table P w K mg base) (c_is_between : K_is_between P w K mg base) (c_Shape : K_Shape P w K mg base C) (c_check_tree : K_check_tree P w K mg base C) : FnOk P w K mg base CX0 7 f fd ["talk", "table"] (sp_check_talk) := by
  refine FunD.ok F sc_check_talk (fun vs H Q E h => ?_) (fun cdv A outer s H vs Q E hr h => ?_)
  · obtain ⟨a, hd, _⟩ := h
    exact hd.length
  · obtain ⟨⟨Z, t, M⟩, hd, ⟨zok, wf, hdep, sh⟩, k⟩ := h
    simp only at zok wf hdep sh
    obtain ⟨v1, v2, rfl, h1, h2⟩ := datL2 hd
    have h1' : Dat H (.tup [.str "talk", .int Z.c0, .int Z.c1, t.d]) v1 := h1
    have h2' : Dat H (.tup (M.map fun r => D.tup (r.map D.int))) v2 := h2
    have hx1 := zok.x1
    obtain ⟨r0, hr0, hl0⟩ := sh.row (i := 0) (by omega)
    have hz : (M.map fun r => D.tup (r.map D.int))[0]? = some (.tup (r0.map D.int)) := by rw [List.getElem?_map, hr0]; rfl
    refine ⟨_, PSs.nox (pss_cons (ps_expr (pe_callF c_check_table hr (by first | decide | omega) (pa_cons (pv 1) pa_nil)))
    (pss_cons (ps_if (PW.pt (pw_or (pt_not (pt_val (pe_callB (k_isi (K := K)) (by rfl) T.isinstance bt_isinstance (pa_cons (pv 0) (pa_cons (pe_bltn (v := .ty "tuple") (by rfl) T.tuple bt_tuple rfl) pa_nil))))) (pw_or (pt_cmpR op_ne (pe_callB (k_len (K := K)) (by rfl) T.len bt_len (pa_cons (pv 0) pa_nil)) pe_int (nomark _)) (pw_or1 (pt_cmpR op_ne (pe_ix (k_ixT (K := K)) (pv 0) pe_int (fun _ _ => rfl)) pe_str (nomark _))))))
    pss_never
    pss_nil)
    (pss_cons (ps_if (PW.pt (pw_or (pt_not (pt_val (pe_callF c_is_between hr (by first | decide | omega) (pa_cons (pe_ix (k_ixT (K := K)) (pv 0) pe_int (fun _ _ => rfl)) (pa_cons pe_int (pa_cons (pe_globI T.MOST_COINS) pa_nil)))))) (pw_or1 (pt_not (pt_val (pe_callF c_is_between hr (by first | decide | omega) (pa_cons (pe_ix (k_ixT (K := K)) (pv 0) pe_int (fun _ _ => rfl)) (pa_cons pe_int (pa_cons (pe_globI T.MOST_COINS) pa_nil)))))))))
    pss_never
    pss_nil)
    (pss_cons (psv 2 sc_check_talk.nd (pe_makeF c_Shape hr (by first | decide | omega) (pa_cons (pe_disp (pps_cons pe_int (pe_callB (k_len (K := K)) (by rfl) T.len bt_len (pa_cons (pv 1) pa_nil)) (pps_cons pe_int (pe_callB (k_len (K := K)) (by rfl) T.len bt_len (pa_cons (pe_ix (k_ixT (K := K)) (pv 1) pe_int (fun _ _ => rfl)) pa_nil)) pps_nil)) (by rfl) (by rfl) (fun z => by cases z) (by decide)) (pa_cons (pe_disp (pps_cons pe_int (pe_ix (k_ixT (K := K)) (pv 0) pe_int (fun _ _ => rfl)) (pps_cons pe_int (pe_ix (k_ixT (K := K)) (pv 0) pe_int (fun _ _ => rfl)) pps_nil)) (by rfl) (by rfl) (fun z => by cases z) (by decide)) pa_nil))))
    (pss_one (ps_expr (pe_callF c_check_tree hr (by first | decide | omega) (pa_cons (pv 2) (pa_cons (pe_ix (k_ixT (K := K)) (pv 0) pe_int (fun _ _ => rfl)) (pa_cons pe_bl pa_nil)))))))))), ?_⟩
    refine q_drop (v := .non) (ev_n (ed_call (d := .non) (eda_cons (ed_var rfl h2) eda_nil) ⟨Z.X, Z.Y, M, rfl, sh, zok.x1, zok.x4, zok.y1, zok.y4⟩ (fun _ h => h))) fun H1 e1 => ?_
    refine q_when (b := false) (et_is (b := false) (et_or (a := !true) (b := false) (et_not (et_v (ed_isi (d := talkD Z t) (b := true) (ed_var rfl (h1.ex e1)) kb_tt))) (fun _ => et_or (a := false) (b := false) (et_b (ed_neI (i := 4) (j := 4) (ed_lenT (ed_var rfl (h1'.ex e1))) ed_ci))
        (fun _ => et_b (ed_is (ed_neS (i := "talk") (j := "talk") (ed_ixT (j := 0) (ed_var rfl (h1'.ex e1)) ed_ci rfl rfl) ed_cs) (by simp))))) rfl) (fun z => by cases z) (fun _ H2 e2 => ?_)
    have e12 := e1.trans e2
    have bt : ∀ (σ' : L2.St) (n j : Nat), 1 ≤ n → n ≤ 3 → σ'[0]? = some (some v1) → [D.str "talk", .int Z.c0, .int Z.c1, t.d][j]? = some (.int n) → EvD (tCall sp_is_between [] E0 (tCons (tOp (rIxT K) (tVar 0) (tC (.int (j : Int)))) (tCons (tC (.int 1)) (tCons (tC (.int 256)) tNil)))) σ' H2 (.bl true) := by
      intro σ' n j hn hn3 hv hj
      refine ed_call (eda_cons (ed_ixT (j := j) (ed_var hv (h1'.ex e12)) ed_ci rfl hj) (eda_cons ed_ci (eda_cons ed_ci eda_nil))) ⟨_, _, _, rfl⟩ (fun d' hd' => ?_)
      rw [hd' _ _ _ rfl]
      congr 1
      simp
      omega
    refine q_when (b := false) (et_is (b := false) (et_or (a := !true) (b := !true) (et_not (et_v (bt _ Z.c0 1 zok.r1 zok.r3 rfl rfl))) (fun _ => et_not (et_v (bt _ Z.c1 2 zok.s1 zok.s3 rfl rfl)))) rfl) (fun z => by cases z) (fun _ H3 e3 => ?_)
    have e13 := e12.trans e3
    -- shape = Shape(.., ..)
    refine q_make (era_cons (er_disp2 (a := Z.X) (b := Z.Y) ed_ci (ed_is (ed_lenT (ed_var rfl (h2'.ex e13))) (by rw [lenM sh])) ed_ci (ed_is (ed_lenT (ed_ixT (j := 0) (ed_var rfl (h2'.ex e13)) ed_ci rfl hz)) (by rw [List.length_map, hl0]))) dz_mono
      (era_cons (er_disp2 (a := Z.c0) (b := Z.c1) ed_ci (ed_ixT (j := 1) (ed_var rfl (h1'.ex e13)) ed_ci rfl rfl) ed_ci (ed_ixT (j := 2) (ed_var rfl (h1'.ex e13)) ed_ci rfl rfl)) dz_mono era_nil)) fun vs H5 x dx e5 hvs nx ndx nex => ?_
    obtain ⟨_, _, rfl, ⟨p1, rfl, hp1⟩, _, _, rfl, ⟨p2, rfl, hp2⟩, rfl⟩ := hvs
    have s0 : Ex H5 (upd (upd H5 dx (.own x)) x (.ins C dx [])) := fun b o e => by
      rw [upd_ne (ne_of_none e nx), upd_ne (ne_of_none e ndx)]
      exact e
    refine ⟨x, dx, p1, p2, rfl, upd_same, fun H6 e6 hx6 => ⟨rfl, ?_⟩⟩
    have e56 : Ex H5 H6 := e6.ex s0 nx
    have e16 := (e13.trans e5).trans e56
    have shp : ShapeAt H6 x C Z := ⟨dx, p1, p2, hx6, e56 _ _ hp1, e56 _ _ hp2⟩
    have nn := t.num_le
    have nn2 : 2 ^ (t.dep + 1) ≤ 2 ^ 9 := Nat.pow_le_pow_right (by decide) (by omega)
    refine s_drop (v := .non) (ev_n (er_call (R := fun H vs => ∃ u, vs = [.ref x, u, .bl false] ∧ Dat H t.d u) (R' := fun H v => Dat H .non v) ?_ (fun vs H7 e7 ⟨u, eu, hu⟩ Q' q' => ?_))) fun H7 e7 => k .non H7 (e16.trans e7) rfl
    · intro H7 e7 Q' q'
      refine ⟨_, rfl, ed_ixT (d := t.d) (j := 3) (ed_var rfl ((h1'.ex e16).ex e7)) ed_ci rfl rfl H7 (Ex.refl H7) _ fun u H8 e8 hu => ?_⟩
      exact q' _ H8 e8 ⟨u, rfl, hu⟩
    · subst eu
      exact ⟨x, u, t, Z, rfl, shp.ex e7, hu, wf, zok, by omega, by omega, fun H8 e8 => q' _ H8 e8 rfl⟩

abbrev sp_pair_of : Sp := spP (fun a : Nat × Nat × Nat => [.int a.1, .int a.2.1, .int a.2.2]) (fun a => a.1 < 2) (fun a => pairD (pick a.1 a.2.1 a.2.2) (pick a.1 a.2.2 a.2.1))
abbrev K_pair_of (P : Program) (w : World) (K : PySem.W.Frag) (mg : Str → Option Value) (base : Heap) : Prop := Fk P w K mg base "pair_of" ["side", "own", "other"] 1 sp_pair_of
theorem sc_pair_of : FnScope ["side", "own", "other"] ["side", "own", "other"] (defScope s_pair_of) := ⟨rfl, rfl, rfl, by decide +kernel, rfl, by decide +kernel, by decide +kernel⟩
theorem ok_pair_of {f : Addr} {fd : FuncData} (F : FnP K "pair_of" "pair_of" s_pair_of f fd) (T : Txt mg)  : FnOk P w K mg base CX0 1 f fd ["side", "own", "other"] (sp_pair_of) := by
  refine FunD.ok F sc_pair_of (fun vs H Q E h => ?_) (fun cdv A outer s H vs Q E hr h => ?_)
  · obtain ⟨a, hd, _⟩ := h
    exact hd.length
  · obtain ⟨⟨side, own, other⟩, hd, hs, k⟩ := h
    simp only at hs hd k
    obtain ⟨v1, v2, v3, rfl, h1, h2, h3⟩ := datL3 hd
    refine ⟨_, PSs.nox (pss_one (ps_ret (pe_ifExp (pt_cmpR op_eq (pv 0) pe_int (nomark _)) (pe_tup (pa_cons (pv 1) (pa_cons (pv 2) pa_nil))) (pe_tup (pa_cons (pv 2) (pa_cons (pv 1) pa_nil)))))), ?_⟩
    refine s_retD (ed_if (b := decide ((side : Int) = 0)) (d := pairD (pick side own other) (pick side other own)) (et_b (ed_eqI (ed_var rfl h1) ed_ci)) (fun hb => ?_) (fun hb => ?_)) (fun v H1 e r => k v H1 e r)
    · have e : side = 0 := by have := of_decide_eq_true hb; omega
      subst e
      exact ed_tup (eda_cons (ed_var rfl h2) (eda_cons (ed_var rfl h3) eda_nil)) (by simp)
    · have e : side = 1 := by have := of_decide_eq_false hb; omega
      subst e
      exact ed_tup (eda_cons (ed_var rfl h3) (eda_cons (ed_var rfl h2) eda_nil)) (by simp)

abbrev K_law_told_answer (P : Program) (w : World) (K : PySem.W.Frag) (mg : Str → Option Value) (base : Heap) : Prop := Fk P w K mg base "_law_told_answer" ["_law_table_here", "_law_side", "_law_mine", "_law_other"] 1 sp_ans
abbrev K_law_answer (P : Program) (w : World) (K : PySem.W.Frag) (mg : Str → Option Value) (base : Heap) : Prop := Fk P w K mg base "_law_answer" ["_law_table_here", "_law_side", "_law_mine", "_law_other"] 1 sp_ans
theorem sc_law_told_answer : FnScope ["_law_table_here", "_law_side", "_law_mine", "_law_other"] ["_law_table_here", "_law_side", "_law_mine", "_law_other"] (defScope s_law_told_answer) := ⟨rfl, rfl, rfl, by decide +kernel, rfl, by decide +kernel, by decide +kernel⟩
theorem ok_law_told_answer {f : Addr} {fd : FuncData} (F : FnP K "_law_told_answer" "_law_told_answer" s_law_told_answer f fd) (T : Txt mg)  : FnOk P w K mg base CX0 1 f fd ["_law_table_here", "_law_side", "_law_mine", "_law_other"] (sp_ans) := by
  refine FunD.ok F sc_law_told_answer (fun vs H Q E h => ?_) (fun cdv A outer s H vs Q E hr h => ?_)
  · obtain ⟨a, hd, _⟩ := h
    exact hd.length
  · obtain ⟨⟨Z, M, side, own, other⟩, hd, ⟨sh, s2, ho, ht⟩, k⟩ := h
    simp only at sh s2 ho ht
    obtain ⟨v1, v2, v3, v4, rfl, h1, h2, h3, h4⟩ := datL4 hd
    refine ⟨_, PSs.nox (pss_cons (ps_if (pt_cmpR op_eq (pv 1) pe_int (nomark _))
    (pss_one (ps_ret (pe_ix (k_ixT (K := K)) (pe_ix (k_ixT (K := K)) (pv 0) (pv 2) (fun _ _ => rfl)) (pv 3) (fun _ _ => rfl))))
    pss_nil)
    (pss_one (ps_ret (pe_ix (k_ixT (K := K)) (pe_ix (k_ixT (K := K)) (pv 0) (pv 3) (fun _ _ => rfl)) (pv 2) (fun _ _ => rfl))))), ?_⟩
    rcases (by omega : side = 0 ∨ side = 1) with e | e
    · subst e
      refine q_when (b := true) (et_b (ed_is (ed_eqI (i := 0) (j := 0) (ed_var rfl h2) ed_ci) rfl)) (fun _ H1 e1 => ?_) (fun z => by cases z)
      exact s_retD (ed_cell (m := M) (i := own) (j := other) (ed_var rfl (h1.ex e1)) (ed_var rfl (h3.ex e1)) (ed_var rfl (h4.ex e1)) sh ho ht rfl rfl) (fun v H2 e2 r => k v H2 (e1.trans e2) r)
    · subst e
      refine q_when (b := false) (et_b (ed_is (ed_eqI (i := 1) (j := 0) (ed_var rfl h2) ed_ci) rfl)) (fun z => by cases z) (fun _ H1 e1 => ?_)
      exact s_retD (ed_cell (m := M) (i := other) (j := own) (ed_var rfl (h1.ex e1)) (ed_var rfl (h4.ex e1)) (ed_var rfl (h3.ex e1)) sh ht ho rfl rfl) (fun v H2 e2 r => k v H2 (e1.trans e2) r)
theorem sc_law_answer : FnScope ["_law_table_here", "_law_side", "_law_mine", "_law_other"] ["_law_table_here", "_law_side", "_law_mine", "_law_other"] (defScope s_law_answer) := ⟨rfl, rfl, rfl, by decide +kernel, rfl, by decide +kernel, by decide +kernel⟩
theorem ok_law_answer {f : Addr} {fd : FuncData} (F : FnP K "_law_answer" "_law_answer" s_law_answer f fd) (T : Txt mg)  : FnOk P w K mg base CX0 1 f fd ["_law_table_here", "_law_side", "_law_mine", "_law_other"] (sp_ans) := by
  refine FunD.ok F sc_law_answer (fun vs H Q E h => ?_) (fun cdv A outer s H vs Q E hr h => ?_)
  · obtain ⟨a, hd, _⟩ := h
    exact hd.length
  · obtain ⟨⟨Z, M, side, own, other⟩, hd, ⟨sh, s2, ho, ht⟩, k⟩ := h
    simp only at sh s2 ho ht
    obtain ⟨v1, v2, v3, v4, rfl, h1, h2, h3, h4⟩ := datL4 hd
    refine ⟨_, PSs.nox (pss_cons (ps_if (pt_cmpR op_eq (pv 1) pe_int (nomark _))
    (pss_one (ps_ret (pe_ix (k_ixT (K := K)) (pe_ix (k_ixT (K := K)) (pv 0) (pv 2) (fun _ _ => rfl)) (pv 3) (fun _ _ => rfl))))
    pss_nil)
    (pss_one (ps_ret (pe_ix (k_ixT (K := K)) (pe_ix (k_ixT (K := K)) (pv 0) (pv 3) (fun _ _ => rfl)) (pv 2) (fun _ _ => rfl))))), ?_⟩
    rcases (by omega : side = 0 ∨ side = 1) with e | e
    · subst e
      refine q_when (b := true) (et_b (ed_is (ed_eqI (i := 0) (j := 0) (ed_var rfl h2) ed_ci) rfl)) (fun _ H1 e1 => ?_) (fun z => by cases z)
      exact s_retD (ed_cell (m := M) (i := own) (j := other) (ed_var rfl (h1.ex e1)) (ed_var rfl (h3.ex e1)) (ed_var rfl (h4.ex e1)) sh ho ht rfl rfl) (fun v H2 e2 r => k v H2 (e1.trans e2) r)
    · subst e
      refine q_when (b := false) (et_b (ed_is (ed_eqI (i := 1) (j := 0) (ed_var rfl h2) ed_ci) rfl)) (fun z => by cases z) (fun _ H1 e1 => ?_)
      exact s_retD (ed_cell (m := M) (i := other) (j := own) (ed_var rfl (h1.ex e1)) (ed_var rfl (h4.ex e1)) (ed_var rfl (h3.ex e1)) sh ht ho rfl rfl) (fun v H2 e2 r => k v H2 (e1.trans e2) r)

theorem ok_law_same0 {f : Addr} {fd : FuncData} (F : FnP K "_law_same" "_law_same" s_law_same f fd) : FnOk P w K mg base CX0 1 f fd ["_law_found", "_law_due"] (sp_same 0) :=
  FunD.ok F (N := ["_law_found", "_law_due", "_law_at"]) ⟨rfl, rfl, rfl, by decide +kernel, rfl, by decide +kernel, by decide +kernel⟩ (fun vs H Q E h => h.elim) (fun cdv A outer s H vs Q E hr h => h.elim)
abbrev K_law_same (P : Program) (w : World) (K : PySem.W.Frag) (mg : Str → Option Value) (base : Heap) (n : Nat) : Prop := Fk P w K mg base "_law_same" ["_law_found", "_law_due"] (n + 1) (sp_same n)
theorem sc_law_same : FnScope ["_law_found", "_law_due", "_law_at"] ["_law_found", "_law_due"] (defScope s_law_same) := ⟨rfl, rfl, rfl, by decide +kernel, rfl, by decide +kernel, by decide +kernel⟩
theorem ok_law_same {f : Addr} {fd : FuncData} (F : FnP K "_law_same" "_law_same" s_law_same f fd) (T : Txt mg) {n : Nat} (c_law_same : K_law_same P w K mg base n) : FnOk P w K mg base CX0 (n+2) f fd ["_law_found", "_law_due"] (sp_same (n + 1)) := by
  refine FunD.ok F sc_law_same (fun vs H Q E h => ?_) (fun cdv A outer s H vs Q E hr h => ?_)
  · obtain ⟨a, hd, _⟩ := h
    exact hd.length
  · obtain ⟨d, hd, sm, k⟩ := h
    obtain ⟨v1, v2, rfl, h1, h2⟩ := datL2 hd
    refine ⟨_, PSs.nox (pss_cons (ps_if (pt_val (pe_callB (k_isi (K := K)) (by rfl) T.isinstance bt_isinstance (pa_cons (pv 1) (pa_cons (pe_bltn (v := .ty "tuple") (by rfl) T.tuple bt_tuple rfl) pa_nil))))
    (pss_cons (ps_if (PW.pt (pw_or (pt_not (pt_val (pe_callB (k_isi (K := K)) (by rfl) T.isinstance bt_isinstance (pa_cons (pv 0) (pa_cons (pe_bltn (v := .ty "tuple") (by rfl) T.tuple bt_tuple rfl) pa_nil))))) (pw_or1 (pt_cmpR op_ne (pe_callB (k_len (K := K)) (by rfl) T.len bt_len (pa_cons (pv 0) pa_nil)) (pe_callB (k_len (K := K)) (by rfl) T.len bt_len (pa_cons (pv 1) pa_nil)) (nomark _)))))
    (pss_one (ps_ret pe_bl))
    pss_nil)
    (pss_cons (ps_for PassesOwn.never (by rfl) (pi_range1 (by rfl) T.range (pa_cons (pe_callB (k_len (K := K)) (by rfl) T.len bt_len (pa_cons (pv 1) pa_nil)) pa_nil)) (pgv 2 sc_law_same.nd)
    (pss_one (ps_if (pt_not (pt_val (pe_callF c_law_same hr (by first | decide | omega) (pa_cons (pe_ix (k_ixT (K := K)) (pv 0) (pv 2) (fun _ _ => rfl)) (pa_cons (pe_ix (k_ixT (K := K)) (pv 1) (pv 2) (fun _ _ => rfl)) pa_nil)))))
    (pss_one (ps_ret pe_bl))
    pss_nil)))
    (pss_one (ps_ret pe_bl))))
    pss_nil)
    (pss_cons (ps_if (pt_val (pe_callB (k_isi (K := K)) (by rfl) T.isinstance bt_isinstance (pa_cons (pv 1) (pa_cons (pe_bltn (v := .ty "str") (by rfl) T.str bt_str rfl) pa_nil))))
    (pss_one (ps_ret (pe_and (pe_callB (k_isi (K := K)) (by rfl) T.isinstance bt_isinstance (pa_cons (pv 0) (pa_cons (pe_bltn (v := .ty "str") (by rfl) T.str bt_str rfl) pa_nil))) (pe_one (pe_cmpR op_eq (pv 0) (pv 1) (nomark _))))))
    pss_nil)
    (pss_one (ps_ret (pe_and (pe_callB (k_isi (K := K)) (by rfl) T.isinstance bt_isinstance (pa_cons (pv 0) (pa_cons (pe_bltn (v := .ty "int") (by rfl) T.int bt_int rfl) pa_nil))) (pe_and (pe_not (pe_callB (k_isi (K := K)) (by rfl) T.isinstance bt_isinstance (pa_cons (pv 0) (pa_cons (pe_bltn (v := .ty "bool") (by rfl) T.bool bt_bool rfl) pa_nil)))) (pe_one (pe_cmpR op_eq (pv 0) (pv 1) (nomark _))))))))), ?_⟩
    cases d with
    | non => cases n <;> cases sm
    | bl b => cases n <;> cases sm
    | lst l => cases n <;> cases sm
    | int i =>
      refine q_when (b := false) (et_v (ed_isi (d := .int i) (b := false) (ed_var rfl h2) kb_it)) (fun z => by cases z) (fun _ H1 e1 => ?_)
      refine q_when (b := false) (et_v (ed_isi (d := .int i) (b := false) (ed_var rfl (h2.ex e1)) kb_is)) (fun z => by cases z) (fun _ H2 e2 => ?_)
      have e := e1.trans e2
      exact s_retB (b := true) (ed_is (ed_and (a := true) (b := true && decide (i = i)) (ed_isi (d := .int i) (b := true) (ed_var rfl (h1.ex e)) kb_ii) (fun _ => ed_and (a := !false) (b := decide (i = i)) (ed_not (ed_isi (d := .int i) (b := false) (ed_var rfl (h1.ex e)) kb_ib)) (fun _ => ed_eqI (ed_var rfl (h1.ex e)) (ed_var rfl (h2.ex e))))) (by simp)) (fun H3 e3 => k _ H3 (e.trans e3) rfl)
    | str i =>
      refine q_when (b := false) (et_v (ed_isi (d := .str i) (b := false) (ed_var rfl h2) kb_st)) (fun z => by cases z) (fun _ H1 e1 => ?_)
      refine q_when (b := true) (et_v (ed_isi (d := .str i) (b := true) (ed_var rfl (h2.ex e1)) kb_ss)) (fun _ H2 e2 => ?_) (fun z => by cases z)
      have e := e1.trans e2
      exact s_retB (b := true) (ed_is (ed_and (a := true) (b := decide (i = i)) (ed_isi (d := .str i) (b := true) (ed_var rfl (h1.ex e)) kb_ss) (fun _ => ed_eqS (ed_var rfl (h1.ex e)) (ed_var rfl (h2.ex e)))) (by simp)) (fun H3 e3 => k _ H3 (e.trans e3) rfl)
    | tup l =>
      cases n with
      | zero => cases sm
      | succ n =>
        have sm' : (l.all (D.sm n) && decide (l.length ≤ 1000)) = true := sm
        rw [Bool.and_eq_true] at sm'
        have hl := of_decide_eq_true sm'.2
        refine q_when (b := true) (et_v (ed_isi (d := .tup l) (b := true) (ed_var rfl h2) kb_tt)) (fun _ H1 e1 => ?_) (fun z => by cases z)
        refine q_when (b := false) (et_is (et_or (a := !true) (b := !decide ((l.length : Int) = (l.length : Int))) (et_not (et_v (ed_isi (d := .tup l) (b := true) (ed_var rfl (h1.ex e1)) kb_tt))) (fun _ => et_b (ed_neI (ed_lenT (ed_var rfl (h1.ex e1))) (ed_lenT (ed_var rfl (h2.ex e1)))))) (by simp)) (fun z => by cases z) (fun _ H2 e2 => ?_)
        have e := e1.trans e2
        refine q_forR (n := l.length) (ed_lenT (ed_var rfl (h2.ex e))) (by omega) (fun i σ' H' => Ex H H' ∧ ∃ o, σ' = [some v1, some v2, o]) (fun H3 e3 => ⟨e.trans e3, _, rfl⟩) ?_ ?_
        · rintro i σ' H' hi ⟨ex, o, rfl⟩
          have hg : l[i]? = some l[i] := List.getElem?_eq_getElem hi
          have hs : D.sm n l[i] = true := List.all_eq_true.mp sm'.1 _ (List.getElem_mem hi)
          exact s_when (b := !true) (et_not (et_v (ed_callP (args := fun d : D => [d, d]) (pre := fun d => D.sm n d = true) (res := fun _ => D.bl true) l[i] (eda_cons (ed_ixT (j := i) (ed_var rfl (h1.ex ex)) (ed_var (d := .int i) rfl rfl) rfl hg) (eda_cons (ed_ixT (j := i) (ed_var rfl (h2.ex ex)) (ed_var (d := .int i) rfl rfl) rfl hg) eda_nil)) hs))) (fun z => by cases z) (fun _ H3 e3 => ⟨ex.trans e3, _, rfl⟩)
        · rintro σ' H' ⟨ex, o, rfl⟩
          exact s_retB (b := true) ed_cb (fun H3 e3 => k _ H3 (ex.trans e3) rfl)
end
end JH
set_option Elab.async false
set_option maxRecDepth 100000
set_option maxHeartbeats 4000000
/-! dicts with tuple keys: d1 | d2 -/
namespace JH
open PySem PySem.Spec PyProof.Rows L2 Evl
section
variable {prog : Program} {w : World} {A : Around} {E : Value → Shared → Prop} {s : Shared} {d : Addr} {es : Array DictEntry} {ep : Nat}
theorem copyOf_raw {nm : String} {Q : Value → Shared → Prop} (hd : (d == sysModules) = false) (hm : s.heap.DictRaw d es ep) (hsz : es.size ≤ sizeLine) (hq : ∀ e ∈ es.toList, KeyApart s es e)
    (h : Q (.ref s.heap.objs.size) { s with heap := s.heap.push { cls := .type "dict", data := .dict es } }) : wpAny (model prog w) A (Builtin.Dict.copyOf nm (.ref d)) Q E s := by
  obtain ⟨o, ho, hc, hdat⟩ := id hm
  have hes : es.size ≤ sizeLine + 1 := by omega
  unfold Builtin.Dict.copyOf
  refine wpAny_bind (wpAny_pure ?_)
  unfold Builtin.Dict.showsAll
  rw [if_neg (by rw [hd]; exact Bool.false_ne_true)]
  refine wpAny_bind (wpAny_pure ?_)
  refine wpAny_bind (wpAny_dictEntries ho hdat ?_)
  by_cases hemp : es.isEmpty = true
  · rw [if_pos hemp]
    have e0 : es = #[] := Array.isEmpty_iff.mp hemp
    refine wpAny_bind (wpAny_rule (wpAny_newObj_type ?_))
    rw [← e0]
    exact h
  · rw [if_neg hemp]
    refine wpAny_bind ?_
    · unfold Builtin.Dict.readDirectly
      refine wpAny_bind (wpAny_isInstance hm.typeIs isSubtype_dict_dict ?_)
      simp only [Bool.not_true, Bool.false_eq_true, if_false]
      refine wpAny_bind (wpAny_specialOf hm.typeIs F.slot_dict_iter.lookup (wpAny_pure ?_))
      simp only [beq_self_eq_true, if_true]
      refine wpAny_bind (wpAny_entriesForEmpty_raw ho hdat hq (wpAny_newObj_type ?_ hes))
      exact h
end
def mergeT (a b : List (List Key × V)) : List (List Key × V) := b.foldl (fun acc kv => putK acc kv.1 kv.2) a
theorem KT.merge {H : Hp} : ∀ {b : List (List Key × V)} {ys : List (List Key × Addr × Value)} {a : List (List Key × V)} {xs : List (List Key × Addr × Value)}, KT H b ys → KT H a xs → KT H (mergeT a b) (storedAllH xs ys)
  | _, _, _, _, .nil, h => h
  | _, _, _, _, .cons r t, h => by
    obtain ⟨h1, h2, h3⟩ := r
    show KT H (mergeT (putK _ _ _) _) (storedAllH (storedH _ _ _ _) _)
    refine KT.merge t ?_
    rw [← h1]
    exact KT.put h _ h2 h3
theorem mergeT_length (b : List (List Key × V)) : ∀ a : List (List Key × V), (mergeT a b).length ≤ a.length + b.length := by
  induction b with
  | nil => intro a; exact Nat.le_refl _
  | cons p b ih =>
    intro a
    have h1 := ih (putK a p.1 p.2)
    have h2 := length_putK a p.1 p.2
    show (mergeT (putK a p.1 p.2) b).length ≤ _
    rw [List.length_cons]
    omega
abbrev hashT (P : Program) (w : World) (k : List Key) : Int := (tupleKind (mixKind P w)).hash k
section
variable {X : Cx}
/-- a | b -/
def rOrT (P : Program) (w : World) : R2 := fun x y H Q => ∃ (a b : Addr) (k1 k2 : List (List Key × V)), x = .ref a ∧ y = .ref b ∧ H a = some (.dT k1) ∧ H b = some (.dT k2) ∧ k1 ≠ [] ∧ (k1.map fun p => hashT P w p.1).Nodup ∧ k1.length + k2.length ≤ 1000 ∧
  ∀ p, H p = none → Q (.ref p) (upd H p (.dT (mergeT k1 k2)))
theorem paired_map {α β γ : Type} {F : α → β → Prop} {f : α → γ} {g : β → γ} (h : ∀ a b, F a b → f a = g b) : ∀ {l : List α} {m : List β}, Paired F l m → l.map f = m.map g
  | _, _, .nil => rfl
  | _, _, .cons r t => by rw [List.map_cons, List.map_cons, h _ _ r, paired_map h t]
theorem paired_mem {α β : Type} {F : α → β → Prop} : ∀ {l : List α} {m : List β}, Paired F l m → ∀ b ∈ m, ∃ a ∈ l, F a b
  | _, _, .nil, b, hb => by cases hb
  | _, _, .cons r t, b, hb => by
    rcases List.mem_cons.mp hb with e | hb
    · subst e; exact ⟨_, List.mem_cons_self, r⟩
    · obtain ⟨a, ha, h⟩ := paired_mem t b hb
      exact ⟨a, List.mem_cons_of_mem _ ha, h⟩
theorem tup_type {P : Program} {w : World} {H : Hp} {s : Shared} (ok : HOk P w H s.heap) {b : Addr} {xs : List V} (h : H b = some (.tup xs)) : s.TypeIs (.ref b) "tuple" := by
  obtain ⟨_, its, _, o, h1, h2, _⟩ := (show ObjOk P w H s.heap b (.tup xs) from ok b _ h)
  exact ⟨o, h1, h2⟩
theorem op_orT (hr : X.A.units + 64 < cLine) : OpR X (binaryOp .BitOr) (rOrT X.prog X.w) := by
  intro pins s σ H x y v u Q I rx ry h
  obtain ⟨a, b, k1, k2, rfl, rfl, ha, hb, hne, hnd, hsz, q⟩ := h
  cases rx
  cases ry
  obtain ⟨z1, lo1, xs1, r1, d1⟩ := dt_of I.hok ha
  obtain ⟨z2, lo2, xs2, r2, d2⟩ := dt_of I.hok hb
  have l1 : k1.length = xs1.length := Paired.length r1
  have l2 : k2.length = xs2.length := Paired.length r2
  have hty : ∀ x ∈ xs1, s.TypeIs (.ref x.2.1) "tuple" := fun x hx => by
    obtain ⟨p, _, _, h2, _⟩ := paired_mem r1 x hx
    exact tup_type I.hok h2
  have hap : (xs1.map fun x => hashT X.prog X.w x.1).Nodup := by
    have e := paired_map (f := fun p : List Key × V => hashT X.prog X.w p.1) (g := fun x : List Key × Addr × Value => hashT X.prog X.w x.1) (fun p q h => by rw [h.1]) r1
    rw [← e]
    exact hnd
  refine wpAny_binaryOp_same (op := .BitOr) (T := "dict") d1.typeIs d2.typeIs F.fills_dict_or F.slot_dict_or ?_
  refine wpAny_call_entry F.slot_dict_or d1.typeIs F.entry_dict_or ?_ (F.args_dict_or_2 _ _)
  unfold Builtin.«dict.__or__»
  refine wpAny_bind ?_
  unfold Builtin.Dict.dictSlotArgs
  refine wpAny_bind (wpAny_notOrdered_dict d1.typeIs ?_)
  show wpAny _ _ (pure (Value.ref a, Value.ref b)) _ _ s
  refine wpAny_pure ?_
  obtain ⟨o, es, ep, ho, hc, hdat, he, his, hn⟩ := id d1
  refine wpAny_bind (wpAny_bind (wpAny_isInstance d1.typeIs isSubtype_dict_dict ?_))
  refine wpAny_isInstance d2.typeIs isSubtype_dict_dict ?_
  simp only [Bool.not_true, Bool.false_eq_true, if_false]
  refine wpAny_bind (copyOf_raw lo1 ⟨o, ho, hc, hdat⟩ (by rw [size_of_entries he, ← l1]; omega) (keysApart he hty hap) ?_)
  have big := I.big
  have newNe : (s.heap.objs.size == sysModules) = false := by
    rw [beq_eq_false_iff_ne]
    exact Nat.ne_of_gt big
  have hp : H s.heap.objs.size = none := I.hok.fresh (Nat.le_refl _)
  have I1 : Inv X pins σ (upd H s.heap.objs.size (.dT k1)) { s with heap := s.heap.push { cls := .type "dict", data := .dict es } } :=
    I.laid (t' := s.toks) (fun b u e => Heap.get?_push_of_some _ e) (Nat.le_refl _)
      ⟨z1, newNe, xs1, r1.keeps (fun b ys e => by rw [upd_ne (ne_of_none e hp)]; exact e), _, es, 0, Heap.get?_push_size _ rfl, ⟨rfl, rfl, rfl⟩, rfl, he, hn⟩
  have hbn : b ≠ s.heap.objs.size := ne_of_none hb hp
  obtain ⟨_, _, ys1, q1, e1⟩ := dt_of I1.hok (upd_same (H := H) (a := s.heap.objs.size) (o := .dT k1))
  obtain ⟨_, _, ys2, q2, e2⟩ := dt_of I1.hok (a := b) (kvs := k2) (by rw [upd_ne hbn]; exact hb)
  have m1 : k1.length = ys1.length := Paired.length q1
  have m2 : k2.length = ys2.length := Paired.length q2
  refine wpAny_bind (wpAny_pure ?_)
  refine wpAny_holding ?_
  have hk0 : ys1 ≠ [] := fun z => by
    rw [z] at m1
    exact hne (List.length_eq_zero_iff.mp m1)
  unfold Builtin.Dict.updateFrom
  refine wpAny_bind (wpAny_typeOf e2.typeIs ?_)
  rw [if_neg (by decide)]
  unfold Builtin.Dict.merge Builtin.Dict.readDirectly
  refine wpAny_bind (wpAny_bind (wpAny_bind (wpAny_isInstance e2.typeIs isSubtype_dict_dict ?_)))
  simp only [Bool.not_true, Bool.false_eq_true, if_false]
  refine wpAny_bind (wpAny_specialOf e2.typeIs F.slot_dict_iter.lookup (wpAny_pure ?_))
  simp only [beq_self_eq_true, if_true]
  refine wpAny_bind (wpAny_pure (wpAny_mergeDict_heap (hsz := by rw [← m1, ← m2]; exact Nat.le_trans hsz (by decide)) (tupleKind_room_in1 (by omega)) (fun z => hbn z.symm) lo2 e1 e2 (.inl hk0) fun h' g1 g2 sb => ?_))
  show wpAny _ _ (Builtin.Dict.addKeywords s.heap.objs.size [] >>= _) _ _ _
  refine wpAny_bind (wpAny_pure (wpAny_pure ⟨_, rfl, (fun z => nomatch z), ?_⟩))
  obtain ⟨o2, es2, ep2, ho2, hc2, hd2, he2, his2, hn2⟩ := g1
  have W := d_write (t' := s.toks) (ob := .dT (mergeT k1 k2)) I1 (a := s.heap.objs.size) (by rw [upd_same]; trivial) sb ⟨o2, ho2⟩ ⟨?_, newNe, storedAllH ys1 ys2, ?_, o2, es2, ep2, ho2, hc2, hd2, he2, hn2⟩
  · rw [upd_upd] at W
    exact ⟨V.ref s.heap.objs.size, _, W, rfl, q _ hp⟩
  · have := mergeT_length k2 k1
    exact Nat.le_trans this (Nat.le_trans hsz (by decide))
  · refine (KT.merge q2 q1).keeps fun b ys e => ?_
    by_cases z : b = s.heap.objs.size
    · subst z
      rw [upd_same] at e
      cases e
    · rw [upd_ne z]
      exact e
end
end JH
set_option Elab.async false
set_option maxRecDepth 100000
set_option maxHeartbeats 4000000
/-! dicts with tuple keys: d1 != d2 -/
namespace JH
open PySem PySem.Spec PyProof.Rows L2 Evl
def eqB : Value → Value → Bool
  | .int i _, .int j _ => decide (i = j)
  | _, _ => false
def IsI (v : Value) : Prop := ∃ i t, v = Value.int i t
theorem eqB_ok {prog : Program} {w : World} {A : Around} {E : Value → Shared → Prop} {s : Shared} {v u : Value} {Q : Bool → Shared → Prop} (hv : IsI v) (hu : IsI u) (h : Q (eqB v u) s) : wpAny (model prog w) A (eqBool v u) Q E s := by
  obtain ⟨i, t, rfl⟩ := hv
  obtain ⟨j, t', rfl⟩ := hu
  exact wpAny_eqBool_int (by rw [Bool.beq_eq_decide_eq]; exact h)
section
variable {prog : Program} {w : World} {K : Type} [DecidableEq K] {knd : HeapKind prog w K} {A : Around} {E : Value → Shared → Prop} {s : Shared}
/-- the entry x has its like in ys -/
def hitH (ys : List (K × Addr × Value)) (x : K × Addr × Value) : Bool := match atKey ys x.1 with
  | none => false
  | some p => eqB x.2.2 p.2
theorem samePairsH {nm : String} {a b : Addr} {xs ys : List (K × Addr × Value)} {Q : Bool → Shared → Prop} (hu : knd.room A) (la : (a == sysModules) = false) (lb : (b == sysModules) = false)
    (da : s.heap.DictOfH knd a xs) (db : s.heap.DictOfH knd b ys) (ix : ∀ x ∈ xs, IsI x.2.2) (iy : ∀ x ∈ ys, IsI x.2.2) (h : Q (xs.length == ys.length && xs.all (hitH ys)) s) :
    wpAny (model prog w) A (Builtin.Dict.samePairs nm a b) Q E s := by
  obtain ⟨oa, es, ep, hoa, hca, hda, hea, hia, hna⟩ := da
  obtain ⟨ob, fs, fp, hob, hcb, hdb, heb, hib, hnb⟩ := db
  have sa : es.size = xs.length := size_of_entries hea
  have sb : fs.size = ys.length := size_of_entries heb
  unfold Builtin.Dict.samePairs Builtin.Dict.showsAll
  rw [if_neg (by rw [la]; exact Bool.false_ne_true), if_neg (by rw [lb]; exact Bool.false_ne_true)]
  refine wpAny_bind (wpAny_pure (wpAny_bind (wpAny_pure (wpAny_bind (wpAny_dictEntries hoa hda ?_)))))
  dsimp only
  refine wpAny_bind (wpAny_dictEntries hob hdb ?_)
  rw [sa, sb]
  by_cases hl : xs.length = ys.length
  · rw [if_neg (by simp [hl])]
    have h2 : Q (xs.all (hitH ys)) s := by simpa [hl] using h
    refine wpAny_bind (wpAny_dictEpoch hoa hda (wpAny_bind ?_))
    rw [Std.Legacy.Range.forIn_eq_forIn_range']
    simp only [Std.Legacy.Range.size, Nat.sub_zero, Nat.add_sub_cancel, Nat.div_one]
    refine wpAny_forIn_list _ (fun rest q s' => s' = s ∧ q = (none, ()) ∧ ∃ i, rest = List.range' i (xs.length - i) ∧ i ≤ xs.length ∧ Q ((xs.drop i).all (hitH ys)) s) _ ?_ ?_ _ _ ⟨rfl, rfl, 0, by simp, Nat.zero_le _, h2⟩
    · rintro k rest q s' ⟨rfl, rfl, i, er, hi, hq⟩
      have lt : i < xs.length := by
        rcases Nat.lt_or_ge i xs.length with z | z
        · exact z
        · rw [Nat.sub_eq_zero_of_le z] at er
          simp at er
      have e1 : xs.length - i = (xs.length - (i + 1)) + 1 := by omega
      rw [e1, List.range'_succ] at er
      injection er with er1 er2
      subst er1
      have gx : xs[k]? = some xs[k] := List.getElem?_eq_getElem lt
      have ge : es[k]? = some (entryOfKey knd xs[k]) := by rw [entry_at hea k, gx]; rfl
      have dr : xs.drop k = xs[k] :: xs.drop (k + 1) := List.drop_eq_getElem_cons lt
      rw [dr, List.all_cons] at hq
      have hm : xs[k] ∈ xs := List.getElem_mem lt
      refine wpAny_bind (wpAny_dictEntries hoa hda ?_)
      rw [ge]
      refine wpAny_bind (wpAny_holding (wpAny_bind (wpAny_dictFind_heap hu (hia _ hm) hob hdb heb hib hnb (fun hno => ?_) (fun j p hj => ?_))))
      · -- not there
        have hz : hitH ys xs[k] = false := by
          unfold hitH
          rw [atKey_none_of_get hno]
        rw [hz, Bool.false_and] at hq
        refine wpAny_pure ?_
        show wpAny _ _ (if (!false) = true then _ else _) _ _ _
        rw [if_pos (by decide)]
        exact wpAny_pure (wpAny_pure hq)
      · have hz : hitH ys xs[k] = eqB xs[k].2.2 p.2 := by
          unfold hitH
          rw [atKey_of_get hnb hj]
        have gf : fs[j]? = some (entryOfKey knd (xs[k].1, p)) := by rw [entry_at heb j, hj]; rfl
        refine wpAny_bind (wpAny_dictEntries hob hdb ?_)
        rw [gf]
        refine wpAny_holding (eqB_ok (ix _ hm) (iy _ (List.mem_of_getElem? hj)) ?_)
        show wpAny _ _ (if (!eqB xs[k].2.2 p.2) = true then _ else _) _ _ _
        rw [hz] at hq
        cases he : eqB xs[k].2.2 p.2 with
        | false =>
          rw [he, Bool.false_and] at hq
          rw [if_pos (by decide)]
          exact wpAny_pure (wpAny_pure hq)
        | true =>
          rw [he, Bool.true_and] at hq
          rw [if_neg (by decide)]
          refine wpAny_bind (wpAny_dictEpoch hoa hda ?_)
          rw [if_neg (by simp)]
          exact wpAny_pure ⟨rfl, rfl, k + 1, er2, lt, hq⟩
    · rintro q s' ⟨rfl, rfl, i, er, hi, hq⟩
      have e : i = xs.length := by
        rcases Nat.lt_or_ge i xs.length with z | z
        · have e1 : xs.length - i = (xs.length - (i + 1)) + 1 := by omega
          rw [e1, List.range'_succ] at er
          cases er
        · exact Nat.le_antisymm hi z
      rw [e, List.drop_length] at hq
      exact wpAny_pure hq
  · rw [if_pos (by simpa using hl)]
    have hb : (xs.length == ys.length) = false := by simpa using hl
    rw [hb, Bool.false_and] at h
    exact wpAny_bind (wpAny_rule (wpAny_pure h))
theorem ne_dictH {a b : Addr} {xs ys : List (K × Addr × Value)} {Q : Value → Shared → Prop} (hr : knd.room A.in1) (hu : A.units < cLine) (la : (a == sysModules) = false) (lb : (b == sysModules) = false)
    (da : s.heap.DictOfH knd a xs) (db : s.heap.DictOfH knd b ys) (ix : ∀ x ∈ xs, IsI x.2.2) (iy : ∀ x ∈ ys, IsI x.2.2) (h : Q (.bool (!(xs.length == ys.length && xs.all (hitH ys)))) s) :
    wpAny (model prog w) A (compareOp .NotEq (.ref a) (.ref b)) Q E s := by
  refine wpAny_richCompare_same_room (op := .NotEq) da.typeIs db.typeIs PySem.F.slot_dict_ne (wpAny_call_entry PySem.F.slot_dict_ne da.typeIs PySem.F.entry_dict_ne ?_ (PySem.F.args_dict_ne_2 _ _)) hu
  show wpAny _ _ (Builtin.Dict.dictSlotArgs "__ne__" ⟨[.ref a, .ref b], []⟩ >>= _) _ _ s
  unfold Builtin.Dict.dictSlotArgs
  refine wpAny_bind (wpAny_bind (wpAny_notOrdered_dict da.typeIs ?_))
  refine wpAny_bind (wpAny_pure (wpAny_pure ?_))
  refine wpAny_bind (wpAny_isInstance (T := "dict") db.typeIs PySem.F.sub_dict_dict ?_)
  simp only [Bool.not_true, Bool.false_eq_true, if_false]
  refine wpAny_bind (wpAny_pure (wpAny_bind (wpAny_pure ?_)))
  refine wpAny_bind (samePairsH hr la lb da db ix iy ?_)
  refine wpAny_pure ⟨_, rfl, (fun x => nomatch x), ?_⟩
  generalize (xs.length == ys.length && xs.all (hitH ys)) = c at h ⊢
  cases c <;> exact h
end
/-- two dicts of ints by tuples, the same -/
def eqDT (k1 k2 : List (List Key × V)) : Bool := (k1.length == k2.length) && k1.all fun p => decide (valV k2 p.1 = some p.2)
section
variable {X : Cx}
def rNeDT : R2 := fun x y H Q => ∃ (a b : Addr) (k1 k2 : List (List Key × V)), x = .ref a ∧ y = .ref b ∧ H a = some (.dT k1) ∧ H b = some (.dT k2) ∧ (∀ p ∈ k1, ∃ n, p.2 = V.int n) ∧ (∀ p ∈ k2, ∃ n, p.2 = V.int n) ∧ Q (.bl (!eqDT k1 k2)) H
theorem kt_hit {H : Hp} {k2 : List (List Key × V)} {ys : List (List Key × Addr × Value)} (r2 : KT H k2 ys) (i2 : ∀ p ∈ k2, ∃ n, p.2 = V.int n) : ∀ {k1 : List (List Key × V)} {xs : List (List Key × Addr × Value)}, KT H k1 xs → (∀ p ∈ k1, ∃ n, p.2 = V.int n) →
    xs.all (hitH ys) = k1.all fun p => decide (valV k2 p.1 = some p.2)
  | _, _, .nil, _ => rfl
  | _, _, .cons (a := p) (b := q) r t, i1 => by
    rw [List.all_cons, List.all_cons, kt_hit r2 i2 t fun p hp => i1 p (List.mem_cons_of_mem _ hp)]
    congr 1
    obtain ⟨e1, _, e3⟩ := r
    obtain ⟨n, en⟩ := i1 p List.mem_cons_self
    rw [en] at e3
    obtain ⟨tk, e3⟩ := (show ∃ tk, q.2.2 = Value.int n tk from e3)
    have rv := r2.val p.1
    unfold hitH
    rw [← e1, e3, en]
    cases hy : atKey ys p.1 with
    | none =>
      rw [hy] at rv
      have e : valV k2 p.1 = none := by
        cases hv : valV k2 p.1 with
        | none => rfl
        | some z => rw [hv] at rv; exact (show False from rv).elim
      rw [e]
      rfl
    | some z =>
      rw [hy] at rv
      cases hv : valV k2 p.1 with
      | none => rw [hv] at rv; exact (show False from rv).elim
      | some u =>
        rw [hv] at rv
        have rv' : RelV u z.2 := rv
        obtain ⟨m, em⟩ : ∃ m, u = V.int m := by
          unfold valV at hv
          obtain ⟨kv, hf, hk⟩ := Option.map_eq_some_iff.mp hv
          obtain ⟨m, hm⟩ := i2 kv (List.mem_of_find?_eq_some hf)
          exact ⟨m, by rw [← hk, hm]⟩
        subst em
        obtain ⟨tk2, e4⟩ := (show ∃ tk, z.2 = Value.int m tk from rv')
        show eqB (.int n tk) z.2 = decide (some (V.int m) = some (V.int n))
        rw [e4]
        show decide (n = m) = _
        by_cases hnm : n = m
        · rw [hnm]; simp
        · rw [decide_eq_false hnm, decide_eq_false]
          intro z
          injection z with z
          injection z with z
          exact hnm z.symm
theorem kt_ints {H : Hp} : ∀ {k1 : List (List Key × V)} {xs : List (List Key × Addr × Value)}, KT H k1 xs → (∀ p ∈ k1, ∃ n, p.2 = V.int n) → ∀ x ∈ xs, IsI x.2.2 := fun r i x hx => by
  obtain ⟨p, hp, _, _, h3⟩ := paired_mem r x hx
  obtain ⟨n, en⟩ := i p hp
  rw [en] at h3
  obtain ⟨tk, e⟩ := (show ∃ tk, x.2.2 = Value.int n tk from h3)
  exact ⟨n, tk, e⟩
theorem op_neDT (hr : X.A.units + 64 < cLine) : OpR X (compareOp .NotEq) rNeDT := by
  intro pins s σ H x y v u Q I rx ry h
  obtain ⟨a, b, k1, k2, rfl, rfl, ha, hb, i1, i2, q⟩ := h
  cases rx
  cases ry
  obtain ⟨z1, lo1, xs1, r1, d1⟩ := dt_of I.hok ha
  obtain ⟨z2, lo2, xs2, r2, d2⟩ := dt_of I.hok hb
  refine ne_dictH (tupleKind_room_in1 (by omega)) (by omega) lo1 lo2 d1 d2 (kt_ints r1 i1) (kt_ints r2 i2) ⟨.bl (!eqDT k1 k2), H, I, ?_, q⟩
  have l1 : k1.length = xs1.length := Paired.length r1
  have l2 : k2.length = xs2.length := Paired.length r2
  rw [kt_hit r2 i2 r1 i1, ← l1, ← l2]
  rfl
end
end JH
set_option Elab.async false
set_option maxRecDepth 100000
set_option maxHeartbeats 4000000
/-! sorted(d) of a dict whose keys are tuples of ints -/
namespace JH
open PySem PySem.Spec PyProof.Rows L2 Evl
/-! ### the order of rows -/
abbrev lt_ := HT.lexLt
theorem lt_irr : ∀ a : List Int, lt_ a a = false
  | [] => rfl
  | x :: a => by
    show HT.lexLt (x :: a) (x :: a) = false
    rw [HT.lexLt_cons, if_pos rfl]
    exact lt_irr a
theorem lt_asym : ∀ a b : List Int, lt_ a b = true → lt_ b a = false
  | [], [], h => by cases h
  | [], _ :: _, _ => rfl
  | _ :: _, [], h => by cases h
  | x :: a, y :: b, h => by
    have h' : HT.lexLt (x :: a) (y :: b) = true := h
    show HT.lexLt (y :: b) (x :: a) = false
    rw [HT.lexLt_cons] at h' ⊢
    by_cases e : x = y
    · rw [if_pos e] at h'
      rw [if_pos e.symm]
      exact lt_asym a b h'
    · rw [if_neg e] at h'
      rw [if_neg (fun z => e z.symm)]
      have := of_decide_eq_true h'
      exact decide_eq_false (by omega)
theorem lt_tot : ∀ a b : List Int, lt_ a b = false → lt_ b a = false → a = b
  | [], [], _, _ => rfl
  | [], _ :: _, h, _ => by cases h
  | _ :: _, [], _, h => by cases h
  | x :: a, y :: b, h, k => by
    have h' : HT.lexLt (x :: a) (y :: b) = false := h
    have k' : HT.lexLt (y :: b) (x :: a) = false := k
    rw [HT.lexLt_cons] at h' k'
    by_cases e : x = y
    · rw [if_pos e] at h'
      rw [if_pos e.symm] at k'
      rw [e, lt_tot a b h' k']
    · rw [if_neg e] at h'
      rw [if_neg (fun z => e z.symm)] at k'
      have := of_decide_eq_false h'
      have := of_decide_eq_false k'
      omega
theorem lt_trans : ∀ a b c : List Int, lt_ a b = true → lt_ b c = true → lt_ a c = true
  | [], [], _, h, _ => by cases h
  | [], _ :: _, [], _, k => by cases k
  | [], _ :: _, _ :: _, _, _ => rfl
  | _ :: _, [], _, h, _ => by cases h
  | _ :: _, _ :: _, [], _, k => by cases k
  | x :: a, y :: b, z :: c, h, k => by
    have h' : HT.lexLt (x :: a) (y :: b) = true := h
    have k' : HT.lexLt (y :: b) (z :: c) = true := k
    show HT.lexLt (x :: a) (z :: c) = true
    rw [HT.lexLt_cons] at h' k' ⊢
    by_cases e : x = y
    · rw [if_pos e] at h'
      subst e
      by_cases e2 : x = z
      · rw [if_pos e2] at k' ⊢
        exact lt_trans a b c h' k'
      · rw [if_neg e2] at k' ⊢
        exact k'
    · rw [if_neg e] at h'
      have h1 := of_decide_eq_true h'
      by_cases e2 : y = z
      · subst e2
        rw [if_neg e]
        exact h'
      · rw [if_neg e2] at k'
        have h2 := of_decide_eq_true k'
        rw [if_neg (by omega)]
        exact decide_eq_true (by omega)
/-- not above is transitive -/
theorem lt_ntr (a b c : List Int) (h : lt_ b a = false) (k : lt_ c b = false) : lt_ c a = false := by
  cases e : lt_ c a with
  | false => rfl
  | true =>
    cases e1 : lt_ a b with
    | true =>
      have := lt_trans c a b e e1
      rw [this] at k
      cases k
    | false =>
      have := lt_tot a b e1 h
      subst this
      rw [e] at k
      cases k
section
variable {prog : Program} {w : World} {A : Around} {s : Shared}
theorem swo_ints (h : Heap) : SrtO.Swo fun v u => lt_ (TS.intsOf h v) (TS.intsOf h u) := ⟨fun x y => lt_asym _ _, fun x y z => lt_ntr _ _ _⟩
theorem kat_ints {b : Bool} {Q : Bool → Shared → Prop} : ∀ {ns ms : List Int} {us ws : List Value} (i : Nat), IntsAre us ns → IntsAre ws ms → (i = 0 → b = true) → Q (lt_ ns ms) s → PySem.W.KatLex prog w A b (decide (us.length < ws.length)) Q (us.zip ws) i s
  | _, _, _, _, _, .nil, .nil, _, q => PySem.W.kat_nil q
  | _, _, _, _, _, .nil, .cons m t h2, _, q => by
    rw [List.zip_nil_left]
    refine PySem.W.kat_nil ?_
    rw [decide_eq_true (by simp)]
    exact q
  | _, _, _, _, _, .cons n t h1, .nil, _, q => by
    rw [List.zip_nil_right]
    exact PySem.W.kat_nil q
  | _, _, _, _, i, .cons (ns := ns) n t h1, .cons (ns := ms) m t' h2, hb, q => by
    rw [List.zip_cons_cons]
    refine PySem.W.kat_cons (SeqAt.EqAt.int_int n t m t' prog w _ _ ?_)
    have q' : Q (if n = m then lt_ ns ms else decide (n < m)) s := q
    refine PySem.W.kat_go (fun e => ?_) (fun e => ?_)
    · have en : n = m := by simpa using e
      rw [if_pos en] at q'
      refine PySem.W.kat_yes ?_
      have := kat_ints (b := b) (i + 1) h1 h2 (fun z => by omega) q'
      simpa using this
    · have en : ¬ n = m := by simpa using e
      rw [if_neg en] at q'
      refine PySem.W.kat_no ?_
      by_cases hi : i = 0
      · subst hi
        rw [hb rfl]
        exact oneLt_int q'
      · have : (b && i == 0) = false := by simp [hi]
        rw [this]
        exact PySem.W.kat_one _ _ (PyProof.Rows.lt_int q')
theorem ints_cmp {vs : List Value} {h0 : Heap} (hp : ∀ v ∈ vs, ∃ ns, TS.TupInts s.heap v ns ∧ TS.intsOf h0 v = ns) : SrtO.Cmp prog w A s (tuples' true) (fun p => p.1 ∈ vs) (SrtO.lt2 fun v u => lt_ (TS.intsOf h0 v) (TS.intsOf h0 u)) := by
  intro p q hm hm'
  obtain ⟨ns, ⟨a, xs, e1, ⟨o, ho, hc, n, hd⟩, i1⟩, e3⟩ := hp _ hm
  obtain ⟨ms, ⟨a', xs', e1', ⟨o', ho', hc', n', hd'⟩, i2⟩, e3'⟩ := hp _ hm'
  show wpAny (model prog w) A (keyLt' (tuples' true) p.1 q.1) (fun r s' => s' = s ∧ r = lt_ (TS.intsOf h0 p.1) (TS.intsOf h0 q.1)) (fun _ _ => False) s
  rw [e3, e3', e1, e1']
  refine PySem.W.kat_lt ho hd ho' hd' ?_
  have k := kat_ints (prog := prog) (w := w) (A := A) (s := s) (b := true) (Q := fun r s' => s' = s ∧ r = lt_ ns ms) 0 i1 i2 (fun _ => rfl) ⟨rfl, rfl⟩
  simpa using k
theorem firsts_ints {h : Heap} : ∀ {vs : List Value}, (∀ v ∈ vs, ∃ ns, TS.TupInts h v ns ∧ ns ≠ []) → ∃ fs : List Value, PySem.W.KatTups h vs fs ∧ fs.length = vs.length ∧ ∀ f ∈ fs, ∃ i t, f = Value.int i t
  | [], _ => ⟨[], PySem.W.KatTups.nil, rfl, fun f hf => by cases hf⟩
  | v :: vs, hp => by
    obtain ⟨fs, h1, h2, h3⟩ := firsts_ints (vs := vs) fun u hu => hp u (List.mem_cons_of_mem _ hu)
    obtain ⟨ns, ⟨a, xs, rfl, ⟨o, ho, hc, n, hd⟩, i1⟩, hne⟩ := hp v List.mem_cons_self
    obtain ⟨xs⟩ := xs
    cases i1 with
    | nil => exact absurd rfl hne
    | @cons i t us ns i1 =>
      refine ⟨.int i t :: fs, PySem.W.KatTups.cons ho hc hd (by simp_all) h1, by simp [h2], fun f hf => ?_⟩
      rcases List.mem_cons.mp hf with e | hf
      · exact ⟨i, t, e⟩
      · exact h3 f hf
theorem ints_sortable {a : Addr} {vs : List Value} {h0 : Heap} (h1 : 0 < vs.length) (hp : ∀ v ∈ vs, ∃ ns, TS.TupInts s.heap v ns ∧ TS.intsOf h0 v = ns ∧ ns ≠ []) (ha : ∀ o, s.heap.get? a = some o → o.cls ≠ .type "tuple") :
    SrtO.SortableO prog w A s a vs fun v u => lt_ (TS.intsOf h0 v) (TS.intsOf h0 u) := by
  intro h' keep
  have hp' : ∀ v ∈ vs, ∃ ns, TS.TupInts h' v ns ∧ TS.intsOf h0 v = ns ∧ ns ≠ [] := fun v hm => by
    obtain ⟨ns, k1, k2, k3⟩ := hp v hm
    exact ⟨ns, k1.keeps fun b o e c => keep b o (fun z => by subst z; exact ha o e c) e, k2, k3⟩
  obtain ⟨fs, g1, g2, g3⟩ := firsts_ints fun v hm => let ⟨ns, k1, _, k3⟩ := hp' v hm; ⟨ns, k1, k3⟩
  refine ⟨tuples' true, fun Q E hq => ?_, ints_cmp fun v hm => let ⟨ns, k1, k2, _⟩ := hp' v hm; ⟨ns, k1, k2⟩⟩
  refine PySem.W.kat_kind (T := .type "int") g1 (by omega) (fun f hm => ?_) (by rfl) ?_
  · obtain ⟨x, t, rfl⟩ := g3 f hm
    exact PySem.W.Looks.now
  · have e : (Value.type "int" != Value.type "tuple") = true := by decide +kernel
    rw [e]
    exact hq
end
/-- an arrangement of an image comes of an arrangement -/
theorem perm_image {α β : Type} [DecidableEq α] (f : α → β) : ∀ (l : List β) (m : List α), l.Perm (m.map f) → ∃ m' : List α, m'.Perm m ∧ l = m'.map f
  | [], m, h => by
    have : m.map f = [] := h.symm.eq_nil
    have : m = [] := List.map_eq_nil_iff.mp this
    subst this
    exact ⟨[], List.Perm.refl _, rfl⟩
  | b :: l, m, h => by
    obtain ⟨a, ha, rfl⟩ := List.mem_map.mp (h.mem_iff.mp List.mem_cons_self)
    have h1 : (f a :: l).Perm (f a :: (m.erase a).map f) := h.trans ((List.perm_cons_erase ha).map f)
    obtain ⟨m', k1, k2⟩ := perm_image f l (m.erase a) h1.cons_inv
    exact ⟨a :: m', (k1.cons a).trans (List.perm_cons_erase ha).symm, by rw [List.map_cons, k2]⟩
def kk (b : List Int) : List Key := b.map Sum.inl
theorem kk_V (b : List Int) : (kk b).map kV = b.map V.int := by
  unfold kk
  rw [List.map_map]
  rfl
theorem kk_inj : ∀ {a b : List Int}, kk a = kk b → a = b
  | [], [], _ => rfl
  | [], _ :: _, h => by cases h
  | _ :: _, [], h => by cases h
  | x :: a, y :: b, h => by
    have h' : (Sum.inl x : Key) :: kk a = Sum.inl y :: kk b := h
    injection h' with h1 h2
    rw [Sum.inl.inj h1, kk_inj h2]
section
variable {X : Cx}
def rSortedDT : List V → Hp → VK → Prop := fun xs H Q => ∃ (a : Addr) (kvs : List (List Key × V)) (ks : List (List Int)), xs = [.ref a] ∧ H a = some (.dT kvs) ∧ kvs.map (·.1) = ks.map kk ∧ ks.length ≤ 1000 ∧ (ks.length < 2 ∨ ∀ k ∈ ks, k ≠ []) ∧
  ∀ (zs : List (Addr × List Int)) p, (zs.map (·.2)).Perm ks → (zs.map (·.2)).Pairwise (fun a b => lt_ b a = false) → (∀ z ∈ zs, H z.1 = some (.tup (z.2.map V.int))) → H p = none → Q (.ref p) (upd H p (.lst (zs.map fun z => V.ref z.1)))
theorem kt_zip {H : Hp} : ∀ {kvs : List (List Key × V)} {xs : List (List Key × Addr × Value)} {ks : List (List Int)}, KT H kvs xs → kvs.map (·.1) = ks.map kk → ∃ zs : List (Addr × List Int), xs.map (fun x => x.2.1) = zs.map (·.1) ∧ zs.map (·.2) = ks ∧ ∀ z ∈ zs, H z.1 = some (.tup (z.2.map V.int))
  | _, _, [], .nil, _ => ⟨[], rfl, rfl, fun z hz => by cases hz⟩
  | _, _, _ :: _, .nil, h => by cases h
  | _, _, [], .cons _ _, h => by cases h
  | _, _, k :: ks, .cons (a := p) (b := q) r t, h => by
    rw [List.map_cons, List.map_cons] at h
    injection h with h1 h2
    obtain ⟨zs, k1, k2, k3⟩ := kt_zip t h2
    obtain ⟨_, e2, _⟩ := r
    rw [h1, kk_V] at e2
    refine ⟨(q.2.1, k) :: zs, by rw [List.map_cons, List.map_cons, k1], by rw [List.map_cons, k2], fun z hz => ?_⟩
    rcases List.mem_cons.mp hz with e | hz
    · rw [e]; exact e2
    · exact k3 z hz
theorem cr_sortedDT (hc : X.calm = true) : CallR X (.builtin "sorted") rSortedDT := by
  intro pins s σ H xs us Q I r q
  obtain ⟨a, kvs, ks, rfl, hd, hks, hlen, hne, q⟩ := q
  obtain ⟨u, rfl, rx⟩ := vals1 r
  cases rx
  obtain ⟨z, lo, ys, rel, dd⟩ := dt_of I.hok hd
  obtain ⟨o, es, ep, ho, hcl, hdat, he, his, hn⟩ := id dd
  have ly : kvs.length = ys.length := Paired.length rel
  have lk : kvs.length = ks.length := by
    have e := congrArg List.length hks
    rwa [List.length_map, List.length_map] at e
  have se : es.size = ys.length := size_of_entries he
  obtain ⟨zs, z1, z2, z3⟩ := kt_zip rel hks
  have lz : zs.length = ks.length := by rw [← z2, List.length_map]
  refine Calls.call_function_entry PyProof.Rows.kind_sorted PyProof.Rows.plain_sorted PyProof.Rows.entry_sorted (PyProof.Rows.args_sorted1 _) ?_
  unfold Builtin.«sorted»
  refine wpAny_bind (m := checkCount "sorted" 1 1 _) (wpAny_pure ?_)
  refine wpAny_bind (PySem.W.kdu_collect (A := X.A.in1) (KdlSrc.rawDict (prog := X.prog) (w := X.w) (es := es) (ep := ep) lo) (I.ok.hd hc) ⟨o, ho, hcl, hdat⟩ (by rw [se, ← ly, lk]; exact Nat.le_trans hlen (by decide)) fun h' tk acc hk hacc => ?_)
  have hal : acc.toList = zs.map fun z => Value.ref z.1 := by
    have e1 : ys.map (fun x => Value.ref x.2.1) = zs.map fun z => Value.ref z.1 := by
      have := congrArg (List.map Value.ref) z1
      rw [List.map_map, List.map_map] at this
      exact this
    rw [← e1]
    apply List.ext_getElem?
    intro i
    rw [List.getElem?_map]
    by_cases hi : i < ys.length
    · have hi' : i < acc.size := by rw [hacc.1, se]; exact hi
      obtain ⟨hi2, e2⟩ := hacc.2 i acc[i] (Array.getElem?_eq_getElem hi')
      rw [Array.getElem?_toList, Array.getElem?_eq_getElem hi', e2, List.getElem?_eq_getElem hi]
      have e3 := entry_at he i
      rw [List.getElem?_eq_getElem hi, Array.getElem?_eq_getElem hi2] at e3
      rw [Option.some.inj e3]
      rfl
    · rw [List.getElem?_eq_none (by rw [Array.length_toList, hacc.1, se]; omega), List.getElem?_eq_none (by omega)]
      rfl
  have I1 : Inv X pins σ H { s with heap := h', toks := tk } := I.kept hk
  have hl2 : acc.toList.length = ks.length := by rw [hal, List.length_map, lz]
  refine wpAny_bind (wpAny_newList ?_ (by rw [hl2]; exact Nat.le_trans hlen (by decide)))
  have hoL : (h'.push (seqObj "list" acc.toList.toArray 0)).get? h'.objs.size = some (seqObj "list" acc.toList.toArray 0) := Heap.get?_push_size _ rfl
  show wpAny _ _ _ _ _ { s with heap := h'.push (seqObj "list" acc.toList.toArray 0), toks := tk }
  have hI : ∀ z ∈ zs, TS.TupInts h' (Value.ref z.1) z.2 := fun z hz => by
    obtain ⟨its, rv, ht, _⟩ := I1.tuple (SqT.of (z3 z hz))
    exact ⟨z.1, its.toArray, rfl, ht, by simpa using Vals.ints rv⟩
  have hI2 : ∀ z ∈ zs, TS.TupInts (h'.push (seqObj "list" acc.toList.toArray 0)) (Value.ref z.1) z.2 := fun z hz => (hI z hz).keeps fun b u e _ => Heap.get?_push_of_some _ e
  refine wpAny_bind (wpAny_holding (wpAny_call_entry PyProof.Rows.slot_list_sort ⟨_, hoL, rfl⟩ PyProof.Rows.entry_list_sort (SrtO.list_sort_ord (s := { s with heap := h'.push (seqObj "list" acc.toList.toArray 0), toks := tk }) (swo_ints h') hoL (by rw [hl2]; exact Nat.le_trans hlen (by decide)) (fun h2 => ?_) fun out hs hb => ⟨_, rfl, ?_⟩) (PyProof.Rows.args_list_sort _)))
  · rcases hne with hne | hne
    · omega
    · refine ints_sortable (by omega) (fun v hv => ?_) (fun o' e' => ?_)
      · rw [hal] at hv
        obtain ⟨z, hz, rfl⟩ := List.mem_map.mp hv
        refine ⟨z.2, hI2 z hz, (hI z hz).ints, hne _ ?_⟩
        rw [← z2]
        exact List.mem_map.mpr ⟨z, hz, rfl⟩
      · have e3 : some o' = some (seqObj "list" acc.toList.toArray 0) := e'.symm.trans hoL
        cases e3
        intro c
        exact absurd (Value.type.inj c) (by decide)
  · have pm : out.Perm (zs.map fun z => Value.ref z.1) := by rw [← hal]; exact hb.perm
    obtain ⟨zs', p1, p2⟩ := perm_image (fun z : Addr × List Int => Value.ref z.1) out zs pm
    have hz' : ∀ z ∈ zs', H z.1 = some (.tup (z.2.map V.int)) := fun z hz => z3 z (p1.mem_iff.mp hz)
    have so : (zs'.map (·.2)).Pairwise (fun a b => lt_ b a = false) := by
      have hs' : (zs'.map fun z => Value.ref z.1).Pairwise fun x y => lt_ (TS.intsOf h' y) (TS.intsOf h' x) = false := by rw [← p2]; exact hs
      rw [List.pairwise_map] at hs' ⊢
      refine List.Pairwise.imp_of_mem (fun {x y} hx hy h => ?_) hs'
      rw [(hI x (p1.mem_iff.mp hx)).ints, (hI y (p1.mem_iff.mp hy)).ints] at h
      exact h
    obtain ⟨e', he'⟩ := PyProof.Rows.sortedHeap_at (vs := acc.toList) (out := out.toArray) hoL
    have hlo : (zs'.map fun z => V.ref z.1).length ≤ sizeLine := by
      rw [List.length_map, p1.length_eq, lz]
      exact Nat.le_trans hlen (by decide)
    have hvals : Vals (zs'.map fun z => V.ref z.1) out := by
      rw [p2]
      clear p1 p2 hz' so hlo
      induction zs' with
      | nil => exact .nil
      | cons z r ih => exact .cons rfl ih
    refine wpAny_pure ⟨_, rfl, .ref h'.objs.size, upd H h'.objs.size (.lst (zs'.map fun z => V.ref z.1)), I1.laid (t' := tk) (fun b u e => ?_) (Nat.le_refl _)
      (show ObjOk X.prog X.w _ _ _ (.lst (zs'.map fun z => V.ref z.1)) from ⟨hlo, out, e', hvals, he'⟩), rfl, q zs' _ (by rw [← z2]; exact p1.map _) so hz' (I1.hok.fresh (Nat.le_refl _))⟩
    have hb : b < h'.objs.size := Heap.lt_size e
    rw [PyProof.Rows.sortedHeap_old (Nat.ne_of_lt hb) (by rw [size_push']; exact Nat.lt_succ_of_lt hb)]
    exact Heap.get?_push_of_some _ e
end
end JH
set_option Elab.async false
set_option maxRecDepth 100000
set_option maxHeartbeats 4000000
/-! a tuple times one; a dict whose keys are pairs of pairs -/
namespace JH
open PySem PySem.Spec PyProof.Rows L2 Evl
theorem tuple_mul1 (l : Addr) (items : Array Value) (n : Nat) (dd : Option Addr) (sl : Array (Option Value)) (u : Tok) :
    Meets (Builtin.«tuple.__mul__» ⟨[.ref l, .int 1 u], []⟩) (fun _ R s => s.heap.get? l = some { cls := .type "tuple", dict := dd, data := .seq items n, slots := sl } ∧ R (.ok (.ret (Value.ref l))) s) :=
  .of_wp fun prog w A R s h => by
    obtain ⟨hp, g, d, tk, os⟩ := s
    obtain ⟨hl, h⟩ := h
    have f1 := AutoSeq1.idx_int
    have c0 : (decide ((1 : Int) < -(2 ^ 63)) || decide ((1 : Int) ≥ 2 ^ 63)) = false := by decide
    have c1 : (items.isEmpty || (1 : Int) == 1) = true := by simp
    wp_walk using wpAny_loadPart' hl
    exact ⟨_, rfl, h⟩
/-- a tuple times 1, 2, .. -/
def rRepA (K : PySem.W.Frag) : R2 := fun x y H Q => ∃ l k xs, x = .ref l ∧ y = .int k ∧ SqT K H l xs ∧ xs ≠ [] ∧ 1 ≤ k ∧ k ≤ 1000 ∧ xs.length ≤ 1000 ∧ (k = 1 → Q (.ref l) H) ∧ ∀ p, H p = none → Q (.ref p) (upd H p (.tup (List.replicate k.toNat xs).flatten))
section
variable {X : Cx} {K : PySem.W.Frag}
theorem op_repA (hK : X.K = K := by rfl) : OpR X (binaryOp .Mult) (rRepA K) := by
  subst hK
  intro pins s σ H x y v u Q I rx ry h
  obtain ⟨l, k, xs, rfl, rfl, hT, hne, h1, h2, hz, q1, q⟩ := h
  by_cases hk : k = 1
  · subst hk
    cases rx
    obtain ⟨t, rfl⟩ := ry
    obtain ⟨its, r, ⟨⟨cls, dd, data, sl⟩, ho, hc, n, hd⟩, hs⟩ := I.tuple hT
    simp only at hc hd
    subst hc hd
    refine wpAny_binaryOp_repeat_ref (T := "tuple") (U := "int") (by decide) ⟨_, ho, rfl⟩ (fun s' => typeIs_int s' 1 t) noFill_tuple_mul F.fills_int_mul F.slot_int_rmul repeat_tuple F.slot_int_index.lookup
      (call_meets F.slot_int_rmul (typeIs_int s 1 t) F.entry_int_rmul (F.args_int_rmul_2 _ _) (int_rmul_tuple 1 t l its.toArray n dd sl)
        ⟨ho, rfl, ⟨_, ho, rfl⟩, call_meets F.slot_tuple_mul ⟨_, ho, rfl⟩ F.entry_tuple_mul (F.args_tuple_mul_2 _ _) (tuple_mul1 l its.toArray n dd sl t) ⟨ho, ?_⟩⟩)
    exact ⟨.ref l, H, I, rfl, q1 rfl⟩
  · exact op_repT pins s σ H _ _ v u Q I rx ry ⟨l, k, xs, rfl, rfl, hT, hne, by omega, h2, hz, q⟩
end
section
variable {K : PySem.W.Frag} {σ : L2.St} {H : Hp} {ta tb : L2.TE} {ds : List D}
theorem datL_rep {vs : List V} (h : DatL H ds vs) : ∀ k : Nat, DatL H (List.replicate k ds).flatten (List.replicate k vs).flatten
  | 0 => rfl
  | k + 1 => by
    rw [List.replicate_succ, List.replicate_succ, List.flatten_cons, List.flatten_cons]
    exact h.append (datL_rep h k)
theorem ed_rep {k : Nat} (ha : EvD ta σ H (.tup ds)) (hb : EvD tb σ H (.int k)) (hne : ds ≠ []) (h1 : 1 ≤ k) (h2 : k ≤ 1000) (hz : ds.length ≤ 1000) : EvD (tOp (rRepA K) ta tb) σ H (.tup (List.replicate k ds).flatten) := fun H1 e1 Q q =>
  ha H1 e1 _ fun v H2 e2 ⟨a, vs, ev, hv, hd⟩ => ev_i hb H2 (e1.trans e2) _ fun H3 e3 => by
    subst ev
    have hl := hd.length
    refine ⟨a, (k : Int), vs, rfl, rfl, SqT.of (e3 a _ hv), fun z => hne (by rw [z] at hl; exact List.eq_nil_of_length_eq_zero hl.symm), by omega, by omega, by omega, fun e => ?_, fun p hp => ?_⟩
    · have ek : k = 1 := by omega
      subst ek
      refine q _ H3 (e2.trans e3) (Dat.tup (e3 a _ hv) ?_)
      have e : (List.replicate 1 ds).flatten = ds := by simp
      rw [e]
      exact hd.ex e3
    · refine q _ _ ((e2.trans e3).trans (Ex.new hp)) (Dat.tup upd_same ?_)
      have e : ((k : Int)).toNat = k := by simp
      rw [e]
      exact datL_rep ((hd.ex e3).ex (Ex.new hp)) k
end
/-! ### a dict by pairs of pairs -/
abbrev C4 := Nat × Nat × Nat × Nat
def key4 (c : C4) : NestedKey := .tup [.tup [.num c.1, .num c.2.1], .tup [.num c.2.2.1, .num c.2.2.2]]
theorem key4_inj {a b : C4} (h : key4 a = key4 b) : a = b := by
  obtain ⟨a1, a2, a3, a4⟩ := a
  obtain ⟨b1, b2, b3, b4⟩ := b
  unfold key4 at h
  injection h with h
  injection h with h1 h
  injection h with h2 _
  injection h1 with h1
  injection h2 with h2
  injection h1 with e1 h1
  injection h1 with e2 _
  injection h2 with e3 h2
  injection h2 with e4 _
  injection e1 with e1
  injection e2 with e2
  injection e3 with e3
  injection e4 with e4
  have := Int.ofNat.inj e1
  have := Int.ofNat.inj e2
  have := Int.ofNat.inj e3
  have := Int.ofNat.inj e4
  simp_all
def keyD (c : C4) : D := .tup [.tup [.int c.1, .int c.2.1], .tup [.int c.2.2.1, .int c.2.2.2]]
theorem keyD_T (c : C4) : (keyD c).T = true := rfl
theorem dat_pair {P : Program} {w : World} {H : Hp} {h : Heap} (ok : HOk P w H h) {i j : Int} {v : V} {u : Value} (hd : Dat H (.tup [.int i, .int j]) v) (r : RelV v u) : NestedIs h (.tup [.num i, .num j]) u := by
  obtain ⟨a, vs, rfl, ha, hvs⟩ := hd
  obtain ⟨x, r1, rfl, hx, hr⟩ := hvs
  obtain ⟨y, r2, rfl, hy, hz⟩ := hr
  cases (show r2 = [] from hz)
  cases (show x = V.int i from hx)
  cases (show y = V.int j from hy)
  cases (show u = Value.ref a from r)
  obtain ⟨_, its, rv, o, h1, h2, n, h3⟩ := (show ObjOk P w H h a (.tup [V.int i, V.int j]) from ok a _ ha)
  refine .tup h1 h2 h3 ?_
  cases rv with
  | cons ra rb =>
    cases rb with
    | cons rc rd =>
      cases rd
      obtain ⟨t1, rfl⟩ := ra
      obtain ⟨t2, rfl⟩ := rc
      exact .cons (.int _ _) (.cons (.int _ _) .nil)
theorem nest_is {P : Program} {w : World} {H : Hp} {h : Heap} (ok : HOk P w H h) {c : C4} {b : Addr} (hd : Dat H (keyD c) (.ref b)) : (nestedKind P w).is h (key4 c) b := by
  obtain ⟨a, vs, ea, ha, hvs⟩ := hd
  cases ea
  obtain ⟨x, r1, rfl, hx, hr⟩ := hvs
  obtain ⟨y, r2, rfl, hy, hz⟩ := hr
  cases (show r2 = [] from hz)
  obtain ⟨_, its, rv, o, h1, h2, n, h3⟩ := (show ObjOk P w H h b (.tup [x, y]) from ok b _ ha)
  refine ⟨.tup h1 h2 h3 ?_, by show 2 ≤ 8; decide⟩
  cases rv with
  | cons ra rb =>
    cases rb with
    | cons rc rd =>
      cases rd
      exact .cons (dat_pair ok hx ra) (.cons (dat_pair ok hy rc) .nil)
/-- everything but what stands at p is kept -/
def ExB' (p : Addr) (H H' : Hp) : Prop := ∀ a o, a ≠ p → H a = some o → H' a = some o
abbrev NX := List (NestedKey × Addr × Value)
/-- the dict's own object -/
def NestObj (P : Program) (w : World) (d : Addr) (xs : NX) (h : Heap) : Prop := ∃ o es ep, h.get? d = some o ∧ o.ExactDict ∧ o.data = .dict es ep ∧ es.toList = xs.map (entryOfKey (nestedKind P w)) ∧ (xs.map (·.1)).Nodup
def nestO (P : Program) (w : World) (d : Addr) (xs : NX) : HO := .ext (NestObj P w d xs)
theorem nestO_ok {P : Program} {w : World} {H : Hp} {h : Heap} {d : Addr} {xs : NX} (n : NestObj P w d xs h) : ObjOk P w H h d (nestO P w d xs) := by
  obtain ⟨o, es, ep, ho, hr⟩ := id n
  refine ⟨n, ⟨o, ho⟩, fun h1 h2 ⟨o, es, ep, ho, hr⟩ k => ⟨o, es, ep, k o ho, hr⟩⟩
/-- at d stands a dict that holds g c at each c of L -/
def NestAt (P : Program) (w : World) (H : Hp) (d : Addr) (g : C4 → List Int) (L : List C4) : Prop := ∃ xs : NX, H d = some (nestO P w d xs) ∧ (d == sysModules) = false ∧ xs.length ≤ L.length ∧
  (∀ x ∈ xs, ∃ c, x.1 = key4 c ∧ Dat H (keyD c) (.ref x.2.1)) ∧ ∀ c ∈ L, ∃ b va, atKey xs (key4 c) = some (b, .ref va) ∧ Dat H (bitsD (g c)) (.ref va)
theorem NestAt.keep {P : Program} {w : World} {H H' : Hp} {d : Addr} {g : C4 → List Int} {L : List C4} (n : NestAt P w H d g L) (e : H' d = H d) (t : TE H H') : NestAt P w H' d g L := by
  obtain ⟨xs, h1, h2, h3, h4, h5⟩ := n
  refine ⟨xs, e.trans h1, h2, h3, fun x hx => ?_, fun c hc => ?_⟩
  · obtain ⟨c, k1, k2⟩ := h4 x hx
    exact ⟨c, k1, k2.te t (keyD_T c)⟩
  · obtain ⟨b, va, k1, k2⟩ := h5 c hc
    exact ⟨b, va, k1, k2.te t (bitsD_T _)⟩
theorem atKey_map {K : Type} [DecidableEq K] (k k' : K) (v : Value) : ∀ xs : List (K × Addr × Value), atKey (xs.map (putAt k v)) k' = if k' = k then (atKey xs k').map fun p => (p.1, v) else atKey xs k'
  | [] => by simp [atKey]
  | x :: xs => by
    have ih := atKey_map k k' v xs
    obtain ⟨k0, a, u⟩ := x
    unfold atKey at ih ⊢
    rw [List.map_cons, List.find?_cons, List.find?_cons]
    by_cases e : k0 = k
    · subst e
      have p1 : putAt k0 v (k0, a, u) = (k0, a, v) := by simp [putAt]
      rw [p1]
      by_cases e2 : k0 = k'
      · subst e2
        simp
      · simp only [e2, decide_false]
        exact ih
    · have p1 : putAt k v (k0, a, u) = (k0, a, u) := by simp [putAt, e]
      rw [p1]
      by_cases e2 : k0 = k'
      · subst e2
        simp [e]
      · simp only [e2, decide_false]
        exact ih
theorem atKey_stored {K : Type} [DecidableEq K] (xs : List (K × Addr × Value)) (k k' : K) (a : Addr) (v : Value) : (k' = k → ∃ b, atKey (storedH xs k a v) k' = some (b, v)) ∧ (k' ≠ k → atKey (storedH xs k a v) k' = atKey xs k') := by
  cases h : atKey xs k with
  | none =>
    rw [storedH_new h]
    unfold atKey at h ⊢
    rw [List.find?_append]
    constructor
    · intro e
      subst e
      have h0 : xs.find? (fun x => decide (x.1 = k')) = none := by simpa using h
      rw [h0]
      exact ⟨a, by simp⟩
    · intro e
      have : ([(k, a, v)] : List (K × Addr × Value)).find? (fun x => decide (x.1 = k')) = none := by simp [Ne.symm e]
      rw [this, Option.or_none]
  | some p =>
    rw [storedH_old h]
    constructor
    · intro e
      subst e
      rw [atKey_map, if_pos rfl, h]
      exact ⟨p.1, rfl⟩
    · intro e
      rw [atKey_map, if_neg e]
section
variable {X : Cx} {o i value : Expr} {pos pos' : Pos} {td ty tv : L2.TE}
theorem NestAt.dict {P : Program} {w : World} {H : Hp} {h : Heap} {d : Addr} {g : C4 → List Int} {L : List C4} (ok : HOk P w H h) (n : NestAt P w H d g L) :
    ∃ xs : NX, H d = some (nestO P w d xs) ∧ (d == sysModules) = false ∧ xs.length ≤ L.length ∧ h.DictOfH (nestedKind P w) d xs ∧ (∀ x ∈ xs, ∃ c, x.1 = key4 c ∧ Dat H (keyD c) (.ref x.2.1)) ∧ ∀ c ∈ L, ∃ b va, atKey xs (key4 c) = some (b, .ref va) ∧ Dat H (bitsD (g c)) (.ref va) := by
  obtain ⟨xs, h1, h2, h3, h4, h5⟩ := n
  obtain ⟨⟨ob, es, ep, k1, k2, k3, k4, k5⟩, _⟩ := (show ObjOk P w H h d (nestO P w d xs) from ok d _ h1)
  refine ⟨xs, h1, h2, h3, ⟨ob, es, ep, k1, k2, k3, k4, fun x hx => ?_, k5⟩, h4, h5⟩
  obtain ⟨c, e1, e2⟩ := h4 x hx
  rw [e1]
  exact nest_is ok e2
/-- {} -/
def tDNewN (P : Program) (w : World) : L2.TE := fun _ H Q => ∀ p, H p = none → (p == sysModules) = false → Q (.ref p) (upd H p (nestO P w p []))
theorem pe_dnewN : PE X (.Dict [] [] pos) (tDNewN X.prog X.w) := ⟨fun pins s σ H Q I h =>
  wpAny_Dict_empty ⟨.ref s.heap.objs.size, _, I.laid (a := s.heap.objs.size) (o := nestO X.prog X.w s.heap.objs.size []) (t' := s.toks) (fun _ _ q => Heap.get?_push_of_some _ q) (Nat.le_refl _)
    (nestO_ok ⟨_, #[], 0, Heap.get?_push_size _ rfl, ⟨rfl, rfl, rfl⟩, rfl, rfl, List.nodup_nil⟩), rfl, h _ (I.hok.fresh (Nat.le_refl _)) (beq_eq_false_iff_ne.mpr (Nat.ne_of_gt I.big))⟩⟩
/-- d[(x, y), (r, s)] -/
def tNGet (P : Program) (w : World) (td ty : L2.TE) : L2.TE := fun σ H Q => td σ H fun x H1 => ty σ H1 fun y H2 => ∃ d g L c, x = .ref d ∧ NestAt P w H2 d g L ∧ Dat H2 (keyD c) y ∧ c ∈ L ∧ ∀ v, Dat H2 (bitsD (g c)) v → Q v H2
theorem pe_nget (hu : X.A.units + 64 < cLine) (ho : PE X o td) (hi : PE X i ty) (hs : NoSl i) : PE X (.Subscript o i pos) (tNGet X.prog X.w td ty) := by
  refine ⟨fun pins s σ H Q I h => ?_⟩
  refine subD_of PySem.F.slot_dict_getitem.lookup hs (thn (ho.run pins s σ H _ I h) fun u s1 ⟨x, H1, I1, rx, q1⟩ => thn (hi.run pins s1 σ H1 _ I1 q1) fun iv s2 ⟨y, H2, I2, ry, d, g, L, c, ex, n, hk, hc, q2⟩ => ?_)
  subst ex
  obtain rfl : u = Value.ref d := rx
  obtain ⟨xs, h1, h2, h3, dd, h4, h5⟩ := n.dict I2.hok
  obtain ⟨b, va, k1, k2⟩ := h5 c hc
  obtain ⟨kb, kvs, rfl, hkb, hkv⟩ := id hk
  obtain rfl : iv = Value.ref kb := ry
  refine ⟨dd.typeIs, wpAny_getItem_heap (show X.A.in1.units + 8 < cLine from ?_) (nest_is I2.hok hk) dd k1 ⟨.ref va, H2, I2.tok _, rfl, q2 _ k2⟩⟩
  show X.A.units + 1 + 8 < cLine
  omega
/-- d[(x, y), (r, s)] = v -/
def rSetN (P : Program) (w : World) : V → V → V → Hp → (Hp → Prop) → Prop := fun o i v H Q => ∃ d g L c, o = .ref d ∧ NestAt P w H d g L ∧ Dat H (keyD c) i ∧ Dat H (bitsD (g c)) v ∧ L.length ≤ 1000 ∧
  ∀ H', ExB' d H H' → TE H H' → NestAt P w H' d g (L ++ [c]) → Q H'
theorem set_nest (hu : X.A.units + 64 < cLine) : PSet X (rSetN X.prog X.w) := by
  intro pins s σ H ov iv v uo ui uv Q I ro ri rv h
  obtain ⟨d, g, L, c, rfl, n, hk, hv, hL, q⟩ := h
  obtain rfl : uo = Value.ref d := ro
  obtain ⟨xs, h1, h2, h3, dd, h4, h5⟩ := n.dict I.hok
  obtain ⟨kb, kvs, rfl, hkb, hkv⟩ := id hk
  obtain rfl : ui = Value.ref kb := ri
  obtain ⟨va, vvs, rfl, hva, hvv⟩ := id hv
  obtain rfl : uv = Value.ref va := rv
  have un : X.A.in1.units + 8 < cLine := by
    show X.A.units + 1 + 8 < cLine
    omega
  refine wpAny_setItem_heap (hsz := Nat.le_trans h3 (Nat.le_trans hL (by decide))) un (nest_is I.hok hk) dd fun h' dd' sb => ?_
  obtain ⟨ob, es, ep, k1, k2, k3, k4, _, k5⟩ := dd'
  have te : TE H (upd H d (nestO X.prog X.w d (storedH xs (key4 c) kb (.ref va)))) := fun a ys e => by
    rw [upd_ne (ne_of e h1 (by intro z; cases z))]
    exact e
  refine ⟨_, d_write (t' := _) I (by rw [h1]; trivial) sb ⟨ob, k1⟩ (nestO_ok (xs := storedH xs (key4 c) kb (.ref va)) ⟨ob, es, ep, k1, k2, k3, k4, k5⟩), q _ (fun a o ne e => by rw [upd_ne ne]; exact e) te ?_⟩
  refine ⟨_, upd_same, h2, ?_, fun x hx => ?_, fun c' hc' => ?_⟩
  · rw [List.length_append, List.length_singleton]
    cases ha : atKey xs (key4 c) with
    | none => rw [storedH_new ha, List.length_append, List.length_singleton]; omega
    | some p => rw [storedH_old ha, List.length_map]; omega
  · have : ∃ c, x.1 = key4 c ∧ Dat H (keyD c) (.ref x.2.1) := by
      cases ha : atKey xs (key4 c) with
      | none =>
        rw [storedH_new ha] at hx
        rcases List.mem_append.mp hx with hx | hx
        · exact h4 x hx
        · rw [List.mem_singleton.mp hx]
          exact ⟨c, rfl, hk⟩
      | some p =>
        rw [storedH_old ha] at hx
        obtain ⟨y, hy, rfl⟩ := List.mem_map.mp hx
        obtain ⟨c2, e1, e2⟩ := h4 y hy
        refine ⟨c2, ?_, ?_⟩
        · rw [← e1]; unfold putAt; split <;> rfl
        · have : (putAt (key4 c) (Value.ref va) y).2.1 = y.2.1 := by unfold putAt; split <;> rfl
          rw [this]; exact e2
    obtain ⟨c2, e1, e2⟩ := this
    exact ⟨c2, e1, e2.te te (keyD_T _)⟩
  · by_cases e : c' = c
    · subst e
      obtain ⟨b, hb⟩ := (atKey_stored xs (key4 c') (key4 c') kb (.ref va)).1 rfl
      exact ⟨b, va, hb, hv.te te (bitsD_T _)⟩
    · have hne : key4 c' ≠ key4 c := fun z => e (key4_inj z)
      rw [(atKey_stored xs (key4 c) (key4 c') kb (.ref va)).2 hne]
      have hc2 : c' ∈ L := by
        rcases List.mem_append.mp hc' with z | z
        · exact z
        · exact absurd (List.mem_singleton.mp z) e
      obtain ⟨b, va', m1, m2⟩ := h5 c' hc2
      exact ⟨b, va', m1, m2.te te (bitsD_T _)⟩
end
end JH
set_option Elab.async false
set_option maxRecDepth 100000
set_option maxHeartbeats 4000000
/-! counts, their dicts; rows in order -/
namespace JH
open PySem L2
/-! ### a dict that counts rows -/
structure CntOf (rows : List (List Int)) (kvs : List (List Key × V)) : Prop where
  val : ∀ b, valV kvs (kk b) = if b ∈ rows then some (.int ((rows.count b : Nat) : Int)) else none
  nd : (kvs.map (·.1)).Nodup
  key : ∀ p ∈ kvs, ∃ b ∈ rows, p.1 = kk b
  len : kvs.length ≤ rows.length
theorem valV_mem {κ : Type} [DecidableEq κ] {kvs : List (κ × V)} (hn : (kvs.map (·.1)).Nodup) {p : κ × V} (hp : p ∈ kvs) : valV kvs p.1 = some p.2 := by
  induction kvs with
  | nil => cases hp
  | cons q r ih =>
    rw [List.map_cons, List.nodup_cons] at hn
    rcases List.mem_cons.mp hp with e | hp
    · subst e
      exact valV_pos rfl
    · have : ¬ q.1 = p.1 := fun e => hn.1 (e ▸ List.mem_map.mpr ⟨p, hp, rfl⟩)
      rw [valV_neg this]
      exact ih hn.2 hp
theorem valV_none {κ : Type} [DecidableEq κ] {kvs : List (κ × V)} {k : κ} (h : valV kvs k = none) : k ∉ kvs.map (·.1) := fun hm => by
  obtain ⟨p, hp, e⟩ := List.mem_map.mp hm
  have := valV_any k kvs
  rw [h] at this
  have h2 : (kvs.any fun kv => decide (kv.1 = k)) = true := List.any_eq_true.mpr ⟨p, hp, by simpa using e⟩
  rw [h2] at this
  cases this
theorem valV_some_mem {κ : Type} [DecidableEq κ] {kvs : List (κ × V)} {k : κ} {v : V} (h : valV kvs k = some v) : (k, v) ∈ kvs := by
  unfold valV at h
  obtain ⟨p, hf, hv⟩ := Option.map_eq_some_iff.mp h
  have := List.find?_some hf
  have e : p.1 = k := by simpa using this
  have : p = (k, v) := Prod.ext e hv
  rw [← this]
  exact List.mem_of_find?_eq_some hf
theorem putK_keys {κ : Type} [DecidableEq κ] (kvs : List (κ × V)) (k : κ) (v : V) : ((putK kvs k v).map (·.1)) = if k ∈ kvs.map (·.1) then kvs.map (·.1) else kvs.map (·.1) ++ [k] := by
  unfold putK
  by_cases h : k ∈ kvs.map (·.1)
  · rw [if_pos h, if_pos]
    · rw [List.map_map]
      apply List.map_congr_left
      intro p _
      show (if p.1 = k then (p.1, v) else p).1 = p.1
      split <;> rfl
    · obtain ⟨p, hp, e⟩ := List.mem_map.mp h
      exact List.any_eq_true.mpr ⟨p, hp, by simpa using e⟩
  · rw [if_neg h, if_neg]
    · rw [List.map_append]; rfl
    · intro hc
      obtain ⟨p, hp, e⟩ := List.any_eq_true.mp hc
      exact h (List.mem_map.mpr ⟨p, hp, by simpa using e⟩)
theorem putK_nodup {κ : Type} [DecidableEq κ] {kvs : List (κ × V)} (hn : (kvs.map (·.1)).Nodup) (k : κ) (v : V) : ((putK kvs k v).map (·.1)).Nodup := by
  rw [putK_keys]
  split
  · exact hn
  · rename_i h
    rw [List.nodup_append]
    exact ⟨hn, by simp, fun a ha b hb => by
      rw [List.mem_singleton.mp hb]
      intro e
      exact h (e ▸ ha)⟩
theorem putK_mem_key {κ : Type} [DecidableEq κ] {kvs : List (κ × V)} {k : κ} {v : V} {p : κ × V} (h : p ∈ putK kvs k v) : p.1 = k ∨ ∃ q ∈ kvs, q.1 = p.1 := by
  have hm : p.1 ∈ (putK kvs k v).map (·.1) := List.mem_map.mpr ⟨p, h, rfl⟩
  rw [putK_keys] at hm
  split at hm
  · obtain ⟨q, hq, e⟩ := List.mem_map.mp hm
    exact .inr ⟨q, hq, e⟩
  · rcases List.mem_append.mp hm with hm | hm
    · obtain ⟨q, hq, e⟩ := List.mem_map.mp hm
      exact .inr ⟨q, hq, e⟩
    · exact .inl (List.mem_singleton.mp hm)
theorem CntOf.nil : CntOf [] [] := ⟨(fun b => by simp [valV]), List.nodup_nil, (fun p hp => by cases hp), Nat.le_refl _⟩
theorem CntOf.get {rows : List (List Int)} {kvs : List (List Key × V)} (c : CntOf rows kvs) (b : List Int) : (valV kvs (kk b)).getD (.int 0) = .int ((rows.count b : Nat) : Int) := by
  rw [c.val]
  by_cases h : b ∈ rows
  · rw [if_pos h]; rfl
  · rw [if_neg h, List.count_eq_zero_of_not_mem h]; rfl
theorem CntOf.put {rows : List (List Int)} {kvs : List (List Key × V)} (c : CntOf rows kvs) (b : List Int) : CntOf (rows ++ [b]) (putK kvs (kk b) (.int (((rows.count b : Nat) : Int) + 1))) where
  val := fun b' => by
    rw [valV_put]
    by_cases e : kk b' = kk b
    · have e' := kk_inj e
      subst e'
      rw [if_pos rfl, if_pos (by simp)]
      simp [List.count_append]
    · have hne : b' ≠ b := fun z => e (by rw [z])
      rw [if_neg e, c.val]
      by_cases h : b' ∈ rows
      · rw [if_pos h, if_pos (by simp [h])]
        rw [List.count_append, List.count_eq_zero_of_not_mem (a := b') (l := [b]) (by simp [hne])]
        rfl
      · rw [if_neg h, if_neg (by simp [h, hne])]
  nd := putK_nodup c.nd _ _
  key := fun p hp => by
    rcases putK_mem_key hp with e | ⟨q, hq, e⟩
    · exact ⟨b, by simp, e⟩
    · obtain ⟨b', hb', e'⟩ := c.key q hq
      exact ⟨b', by simp [hb'], e.symm.trans e'⟩
  len := by
    have := length_putK kvs (kk b) (.int (((rows.count b : Nat) : Int) + 1))
    have := c.len
    rw [List.length_append, List.length_singleton]
    omega
theorem CntOf.ints {rows : List (List Int)} {kvs : List (List Key × V)} (c : CntOf rows kvs) : ∀ p ∈ kvs, ∃ n, p.2 = V.int n := fun p hp => by
  have h := valV_mem c.nd hp
  obtain ⟨b, hb, e⟩ := c.key p hp
  rw [e, c.val, if_pos hb] at h
  exact ⟨_, (Option.some.inj h).symm⟩
theorem CntOf.keys {rows : List (List Int)} {kvs : List (List Key × V)} (c : CntOf rows kvs) : ∃ ks : List (List Int), kvs.map (·.1) = ks.map kk ∧ ks.Nodup ∧ ∀ b, b ∈ ks ↔ b ∈ rows := by
  have ex : ∀ l : List (List Key × V), (∀ p ∈ l, ∃ b ∈ rows, p.1 = kk b) → ∃ ks : List (List Int), l.map (·.1) = ks.map kk := by
    intro l
    induction l with
    | nil => intro _; exact ⟨[], rfl⟩
    | cons p l ih =>
      intro h
      obtain ⟨ks, e⟩ := ih fun q hq => h q (List.mem_cons_of_mem _ hq)
      obtain ⟨b, _, eb⟩ := h p List.mem_cons_self
      exact ⟨b :: ks, by rw [List.map_cons, List.map_cons, e, eb]⟩
  obtain ⟨ks, e⟩ := ex kvs c.key
  refine ⟨ks, e, ?_, fun b => ⟨fun hb => ?_, fun hb => ?_⟩⟩
  · have := c.nd
    rw [e] at this
    exact List.Pairwise.of_map _ (fun _ _ hne e => hne (congrArg kk e)) this
  · have hm : kk b ∈ kvs.map (·.1) := by rw [e]; exact List.mem_map.mpr ⟨b, hb, rfl⟩
    obtain ⟨p, hp, ep⟩ := List.mem_map.mp hm
    obtain ⟨b', hb', e'⟩ := c.key p hp
    rw [kk_inj (ep.symm.trans e')]
    exact hb'
  · have h := c.val b
    rw [if_pos hb] at h
    have hm : kk b ∈ kvs.map (·.1) := List.mem_map.mpr ⟨_, valV_some_mem h, rfl⟩
    rw [e] at hm
    obtain ⟨b', hb', e'⟩ := List.mem_map.mp hm
    rw [← kk_inj e']
    exact hb'
theorem back_of_len {α : Type} [DecidableEq α] : ∀ {l m : List α}, l.Nodup → (∀ x ∈ l, x ∈ m) → m.length ≤ l.length → ∀ x ∈ m, x ∈ l
  | [], m, _, _, h, x, hx => by
    have : m = [] := List.eq_nil_of_length_eq_zero (by simpa using h)
    subst this
    cases hx
  | a :: l, m, hn, hs, h, x, hx => by
    have hn2 := List.nodup_cons.mp hn
    have ha : a ∈ m := hs a List.mem_cons_self
    by_cases e : x = a
    · rw [e]; exact List.mem_cons_self
    · refine List.mem_cons_of_mem _ (back_of_len (m := m.erase a) hn2.2 (fun y hy => ?_) ?_ x ((List.mem_erase_of_ne e).mpr hx))
      · exact (List.mem_erase_of_ne (fun (z : y = a) => hn2.1 (z ▸ hy))).mpr (hs y (List.mem_cons_of_mem _ hy))
      · rw [List.length_erase_of_mem ha]
        simp only [List.length_cons] at h
        omega
/-- as many at most -/
theorem len_of_sub {α : Type} [DecidableEq α] : ∀ {l m : List α}, l.Nodup → (∀ x ∈ l, x ∈ m) → l.length ≤ m.length
  | [], _, _, _ => Nat.zero_le _
  | a :: l, m, hn, hs => by
    have hn2 := List.nodup_cons.mp hn
    have ha : a ∈ m := hs a List.mem_cons_self
    have := len_of_sub (l := l) (m := m.erase a) hn2.2 (fun y hy => (List.mem_erase_of_ne (fun (z : y = a) => hn2.1 (z ▸ hy))).mpr (hs y (List.mem_cons_of_mem _ hy)))
    rw [List.length_erase_of_mem ha] at this
    have h0 := List.length_pos_of_mem ha
    simp only [List.length_cons]
    omega
theorem len_of_sub1 {α : Type} [DecidableEq α] {l m : List α} {z : α} (hn : l.Nodup) (hs : ∀ x ∈ l, x ∈ m) (hz : z ∈ m) (hz2 : z ∉ l) : l.length + 1 ≤ m.length := by
  have := len_of_sub (l := l) (m := m.erase z) hn fun y hy => (List.mem_erase_of_ne (fun (e : y = z) => hz2 (e ▸ hy))).mpr (hs y hy)
  rw [List.length_erase_of_mem hz] at this
  have h0 := List.length_pos_of_mem hz
  omega
theorem mem_count {rows : List (List Int)} {b : List Int} : b ∈ rows ↔ rows.count b ≠ 0 := by
  constructor
  · intro h
    have := List.count_pos_iff.mpr h
    omega
  · intro h
    exact List.count_pos_iff.mp (by omega)
/-- the dicts are the same just if every row is counted alike -/
theorem eqDT_iff {r1 r2 : List (List Int)} {k1 k2 : List (List Key × V)} (c1 : CntOf r1 k1) (c2 : CntOf r2 k2) : eqDT k1 k2 = true ↔ ∀ b, r1.count b = r2.count b := by
  obtain ⟨s1, e1, n1, m1⟩ := c1.keys
  obtain ⟨s2, e2, n2, m2⟩ := c2.keys
  have l1 : k1.length = s1.length := by have := congrArg List.length e1; simpa using this
  have l2 : k2.length = s2.length := by have := congrArg List.length e2; simpa using this
  unfold eqDT
  rw [Bool.and_eq_true, beq_iff_eq, List.all_eq_true]
  constructor
  · rintro ⟨hl, hall⟩ b
    have key : ∀ b ∈ r1, r1.count b = r2.count b ∧ b ∈ r2 := by
      intro b hb
      have h := c1.val b
      rw [if_pos hb] at h
      have hm := valV_some_mem h
      have h2 := of_decide_eq_true (hall _ hm)
      simp only at h2
      rw [c2.val] at h2
      by_cases hb2 : b ∈ r2
      · rw [if_pos hb2] at h2
        have h3 := Option.some.inj h2
        injection h3 with h3
        exact ⟨by omega, hb2⟩
      · rw [if_neg hb2] at h2
        cases h2
    by_cases hb : b ∈ r1
    · exact (key b hb).1
    · have sub : ∀ b ∈ s1, b ∈ s2 := fun b hb => (m2 b).mpr (key b ((m1 b).mp hb)).2
      have hb2 : b ∉ r2 := fun z => hb ((m1 b).mp (back_of_len n1 sub (by omega) b ((m2 b).mpr z)))
      rw [List.count_eq_zero_of_not_mem hb, List.count_eq_zero_of_not_mem hb2]
  · intro h
    have mm : ∀ b, b ∈ r1 ↔ b ∈ r2 := fun b => by rw [mem_count, mem_count, h b]
    have pm : s1.Perm s2 := (List.perm_ext_iff_of_nodup n1 n2).mpr fun b => by rw [m1, m2, mm]
    refine ⟨by rw [l1, l2, pm.length_eq], fun p hp => ?_⟩
    obtain ⟨b, hb, e⟩ := c1.key p hp
    have v1 := valV_mem c1.nd hp
    rw [e, c1.val, if_pos hb] at v1
    rw [e, c2.val, if_pos ((mm b).mp hb), ← v1, h b]
    simp
/-! ### joined -/
theorem merge_keys {r1 r2 : List (List Int)} {k1 k2 : List (List Key × V)} (c1 : CntOf r1 k1) (c2 : CntOf r2 k2) : ∃ ks : List (List Int), (mergeT k1 k2).map (·.1) = ks.map kk ∧ ks.Nodup ∧ ∀ b, b ∈ ks ↔ b ∈ r1 ∨ b ∈ r2 := by
  obtain ⟨s1, e1, n1, m1⟩ := c1.keys
  obtain ⟨s2, e2, _, m2⟩ := c2.keys
  have go : ∀ (b : List (List Key × V)) (a : List (List Key × V)) (sa sb : List (List Int)), a.map (·.1) = sa.map kk → sa.Nodup → b.map (·.1) = sb.map kk → ∃ ks : List (List Int), (mergeT a b).map (·.1) = ks.map kk ∧ ks.Nodup ∧ ∀ x, x ∈ ks ↔ x ∈ sa ∨ x ∈ sb := by
    intro b
    induction b with
    | nil =>
      intro a sa sb ha na hb
      have : sb = [] := by
        cases sb with
        | nil => rfl
        | cons _ _ => cases hb
      subst this
      exact ⟨sa, ha, na, fun x => by simp⟩
    | cons p b ih =>
      intro a sa sb ha na hb
      cases sb with
      | nil => cases hb
      | cons y sb =>
        rw [List.map_cons, List.map_cons] at hb
        injection hb with h1 h2
        have hk := putK_keys a p.1 p.2
        rw [h1, ha] at hk
        by_cases hm : kk y ∈ sa.map kk
        · rw [if_pos hm] at hk
          have hy : y ∈ sa := by
            obtain ⟨z, hz, ez⟩ := List.mem_map.mp hm
            rw [← kk_inj ez]
            exact hz
          obtain ⟨ks, g1, g2, g3⟩ := ih (putK a p.1 p.2) sa sb (by rw [h1]; exact hk) na h2
          exact ⟨ks, g1, g2, fun x => by
            rw [g3, List.mem_cons]
            constructor
            · rintro (h | h)
              · exact .inl h
              · exact .inr (.inr h)
            · rintro (h | h | h)
              · exact .inl h
              · exact .inl (h ▸ hy)
              · exact .inr h⟩
        · rw [if_neg hm] at hk
          have hy : y ∉ sa := fun z => hm (List.mem_map.mpr ⟨y, z, rfl⟩)
          obtain ⟨ks, g1, g2, g3⟩ := ih (putK a p.1 p.2) (sa ++ [y]) sb (by rw [h1, hk, List.map_append]; rfl) (by
            rw [List.nodup_append]
            exact ⟨na, by simp, fun u hu v hv => by
              rw [List.mem_singleton.mp hv]
              intro e
              exact hy (e ▸ hu)⟩) h2
          exact ⟨ks, g1, g2, fun x => by
            rw [g3, List.mem_append, List.mem_singleton, List.mem_cons, or_assoc]⟩
  obtain ⟨ks, g1, g2, g3⟩ := go k2 k1 s1 s2 e1 n1 e2
  exact ⟨ks, g1, g2, fun b => by rw [g3, m1, m2]⟩
/-! ### rows in strictly rising order -/
abbrev Up (l : List (List Int)) : Prop := l.Pairwise fun a b => lt_ a b = true
theorem up_unique : ∀ {l m : List (List Int)}, Up l → Up m → (∀ b, b ∈ l ↔ b ∈ m) → l = m
  | [], [], _, _, _ => rfl
  | [], y :: m, _, _, h => absurd ((h y).mpr List.mem_cons_self) (by simp)
  | x :: l, [], _, _, h => absurd ((h x).mp List.mem_cons_self) (by simp)
  | x :: l, y :: m, hl, hm, h => by
    have hl := List.pairwise_cons.mp hl
    have hm := List.pairwise_cons.mp hm
    have e : x = y := by
      rcases List.mem_cons.mp ((h x).mp List.mem_cons_self) with e | hx
      · exact e
      · rcases List.mem_cons.mp ((h y).mpr List.mem_cons_self) with e | hy
        · exact e.symm
        · have a := hl.1 y hy
          have b := hm.1 x hx
          rw [lt_asym _ _ a] at b
          cases b
    subst e
    have nx : x ∉ l := fun z => by
      have := hl.1 x z
      rw [lt_irr] at this
      cases this
    have ny : x ∉ m := fun z => by
      have := hm.1 x z
      rw [lt_irr] at this
      cases this
    rw [up_unique hl.2 hm.2 fun b => ?_]
    constructor
    · intro hb
      rcases List.mem_cons.mp ((h b).mp (List.mem_cons_of_mem _ hb)) with e | hb'
      · exact absurd (e ▸ hb) nx
      · exact hb'
    · intro hb
      rcases List.mem_cons.mp ((h b).mpr (List.mem_cons_of_mem _ hb)) with e | hb'
      · exact absurd (e ▸ hb) ny
      · exact hb'
/-- put into its place, once -/
def ins_ (x : List Int) : List (List Int) → List (List Int)
  | [] => [x]
  | y :: l => if lt_ x y = true then x :: y :: l else if x = y then y :: l else y :: ins_ x l
def srt (l : List (List Int)) : List (List Int) := l.foldr ins_ []
theorem mem_ins (x b : List Int) : ∀ l, b ∈ ins_ x l ↔ b = x ∨ b ∈ l
  | [] => by simp [ins_]
  | y :: l => by
    have ih := mem_ins x b l
    unfold ins_
    split
    · simp
    · split
      · rename_i h
        subst h
        simp
      · rw [List.mem_cons, ih, List.mem_cons]
        constructor
        · rintro (h | h | h)
          · exact .inr (.inl h)
          · exact .inl h
          · exact .inr (.inr h)
        · rintro (h | h | h)
          · exact .inr (.inl h)
          · exact .inl h
          · exact .inr (.inr h)
theorem up_ins (x : List Int) : ∀ {l}, Up l → Up (ins_ x l)
  | [], _ => by simp [ins_]
  | y :: l, h => by
    unfold ins_
    have h2 := List.pairwise_cons.mp h
    split
    · rename_i hx
      refine List.pairwise_cons.mpr ⟨fun z hz => ?_, h⟩
      rcases List.mem_cons.mp hz with e | hz
      · rw [e]; exact hx
      · exact lt_trans _ _ _ hx (h2.1 z hz)
    · rename_i hx
      split
      · exact h
      · rename_i hne
        refine List.pairwise_cons.mpr ⟨fun z hz => ?_, up_ins x h2.2⟩
        rcases (mem_ins x z l).mp hz with e | hz
        · subst e
          cases hyz : lt_ y z with
          | true => rfl
          | false => exact absurd (lt_tot _ _ (by simpa using hx) hyz) hne
        · exact h2.1 z hz
theorem up_srt : ∀ l, Up (srt l)
  | [] => List.Pairwise.nil
  | x :: l => up_ins x (up_srt l)
theorem mem_srt (b : List Int) : ∀ l, b ∈ srt l ↔ b ∈ l
  | [] => Iff.rfl
  | x :: l => by
    show b ∈ ins_ x (srt l) ↔ _
    rw [mem_ins, mem_srt b l, List.mem_cons]
/-- an arrangement without a descent, of rows that are all different -/
theorem srt_of {l m : List (List Int)} (hn : l.Nodup) (hs : l.Pairwise fun a b => lt_ b a = false) (hm : ∀ b, b ∈ l ↔ b ∈ m) : l = srt m := by
  refine up_unique ?_ (up_srt m) fun b => by rw [hm, mem_srt]
  have := hs.and hn
  refine this.imp fun {a b} h => ?_
  cases e : lt_ a b with
  | true => rfl
  | false => exact absurd (lt_tot a b e h.1) h.2
end JH
set_option Elab.async false
set_option maxRecDepth 100000
set_option maxHeartbeats 4000000
/-! the hash of a row of bits -/
namespace JH
open PySem L2
def hb (b : List Int) : Int := reduceHash (Builtin.Tuple.tupleHashOf (b.map hashInt))
theorem hashT_kk (P : Program) (w : World) (b : List Int) : hashT P w (kk b) = hb b := by
  unfold hashT hb kk
  show tupleKeyHash (mixKind P w) _ = _
  unfold tupleKeyHash
  rw [List.map_map]
  rfl
def exB : Nat → List (List Int)
  | 0 => [[]]
  | n + 1 => (exB n).map (fun l => 0 :: l) ++ (exB n).map (fun l => 1 :: l)
theorem mem_exB : ∀ {b : List Int}, (∀ x ∈ b, x = 0 ∨ x = 1) → b ∈ exB b.length
  | [], _ => by simp [exB]
  | x :: b, h => by
    have ih := mem_exB (b := b) fun y hy => h y (List.mem_cons_of_mem _ hy)
    rcases h x List.mem_cons_self with e | e
    · subst e
      exact List.mem_append.mpr (.inl (List.mem_map.mpr ⟨b, ih, rfl⟩))
    · subst e
      exact List.mem_append.mpr (.inr (List.mem_map.mpr ⟨b, ih, rfl⟩))
def allB : List (List Int) := (List.range 9).flatMap exB
theorem nodup_hb : (allB.map hb).Nodup := by decide +kernel
end JH
set_option Elab.async false
set_option maxRecDepth 100000
set_option maxHeartbeats 4000000
/-! what is learned: rows told apart, the first of them; inputs in order -/
namespace JH
open PySem L2
def BitRow (b : List Int) : Prop := b.length ≤ 8 ∧ ∀ x ∈ b, x = 0 ∨ x = 1
theorem mem_allB {b : List Int} (h : BitRow b) : b ∈ allB := List.mem_flatMap.mpr ⟨b.length, List.mem_range.mpr (by have := h.1; omega), mem_exB h.2⟩
theorem inj_of_nodup {α β : Type} {f : α → β} : ∀ {l : List α}, (l.map f).Nodup → ∀ {a b : α}, a ∈ l → b ∈ l → f a = f b → a = b
  | [], _, a, _, ha, _, _ => by cases ha
  | x :: l, hn, a, b, ha0, hb0, e => by
    rw [List.map_cons] at hn
    have hn := List.nodup_cons.mp hn
    rcases List.mem_cons.mp ha0 with e1 | ha
    · rcases List.mem_cons.mp hb0 with e2 | hb
      · rw [e1, e2]
      · subst e1
        exact absurd (show f a ∈ l.map f from List.mem_map.mpr ⟨b, hb, e.symm⟩) hn.1
    · rcases List.mem_cons.mp hb0 with e2 | hb
      · subst e2
        exact absurd (show f b ∈ l.map f from List.mem_map.mpr ⟨a, ha, e⟩) hn.1
      · exact inj_of_nodup hn.2 ha hb e
theorem nodup_map {α β : Type} {f : α → β} : ∀ {l : List α}, l.Nodup → (∀ a ∈ l, ∀ b ∈ l, f a = f b → a = b) → (l.map f).Nodup
  | [], _, _ => List.nodup_nil
  | x :: l, hn, h => by
    have hn := List.nodup_cons.mp hn
    rw [List.map_cons]
    refine List.nodup_cons.mpr ⟨fun z => ?_, nodup_map hn.2 fun a ha b hb => h a (List.mem_cons_of_mem _ ha) b (List.mem_cons_of_mem _ hb)⟩
    obtain ⟨y, hy, e⟩ := List.mem_map.mp z
    exact hn.1 (h y (List.mem_cons_of_mem _ hy) x List.mem_cons_self e ▸ hy)
theorem CntOf.hashes {rows : List (List Int)} {kvs : List (List Key × V)} (c : CntOf rows kvs) (hbit : ∀ b ∈ rows, BitRow b) (P : Program) (w : World) : (kvs.map fun p => hashT P w p.1).Nodup := by
  obtain ⟨ks, e, nd, hm⟩ := c.keys
  have e2 : (kvs.map fun p => hashT P w p.1) = ks.map hb := by
    have : (kvs.map fun p => hashT P w p.1) = (kvs.map (·.1)).map (hashT P w) := by rw [List.map_map]; rfl
    rw [this, e, List.map_map]
    exact List.map_congr_left fun b _ => hashT_kk P w b
  rw [e2]
  exact nodup_map nd fun a ha b hb' e => inj_of_nodup nodup_hb (mem_allB (hbit a ((hm a).mp ha))) (mem_allB (hbit b ((hm b).mp hb'))) e
theorem CntOf.ne_nil {rows : List (List Int)} {kvs : List (List Key × V)} (c : CntOf rows kvs) (h : rows ≠ []) : kvs ≠ [] := fun z => by
  subst z
  cases rows with
  | nil => exact h rfl
  | cons b r =>
    have := c.val b
    rw [if_pos List.mem_cons_self] at this
    cases this
/-- the rows let out to one side, a turn for each coin of the other -/
def rowsOf (Z : Sz) (t : Tr) (side own coin other : Nat) : List (List Int) := (List.range (Z.cn (1 - side))).map fun k => (t.run (pick side own other) (pick side other own) (pick side coin k) (pick side k coin)).1
theorem pick_x {Z : Sz} {side own other : Nat} (h : side < 2) (ho : own < Z.sz side) (ht : other < Z.sz (1 - side)) : pick side own other < Z.X ∧ pick side other own < Z.Y := by
  rcases (by omega : side = 0 ∨ side = 1) with e | e
  · subst e; exact ⟨ho, ht⟩
  · subst e; exact ⟨ht, ho⟩
theorem pick_c {Z : Sz} {side own other : Nat} (h : side < 2) (ho : own < Z.cn side) (ht : other < Z.cn (1 - side)) : pick side own other < Z.c0 ∧ pick side other own < Z.c1 := by
  rcases (by omega : side = 0 ∨ side = 1) with e | e
  · subst e; exact ⟨ho, ht⟩
  · subst e; exact ⟨ht, ho⟩
theorem cn_pos {Z : Sz} (z : Z.Ok) (side : Nat) : 1 ≤ Z.cn side := by
  unfold Sz.cn
  have := z.r1
  have := z.s1
  split <;> omega
theorem sz_pos {Z : Sz} (z : Z.Ok) (side : Nat) : 1 ≤ Z.sz side := by
  unfold Sz.sz
  have := z.x1
  have := z.y1
  split <;> omega
theorem rowsOf_ne {Z : Sz} (z : Z.Ok) (t : Tr) (side own coin other : Nat) : rowsOf Z t side own coin other ≠ [] := by
  have := cn_pos z (1 - side)
  intro e
  have := congrArg List.length e
  simp [rowsOf] at this
  omega
theorem rowsOf_len (Z : Sz) (t : Tr) (side own coin other : Nat) : (rowsOf Z t side own coin other).length = Z.cn (1 - side) := by simp [rowsOf]
theorem rowsOf_bits {Z : Sz} {t : Tr} {side own coin other : Nat} (wf : t.WF Z) (dep : t.dep ≤ 8) (h : side < 2) (ho : own < Z.sz side) (hc : coin < Z.cn side) (ht : other < Z.sz (1 - side)) : ∀ b ∈ rowsOf Z t side own coin other, BitRow b := fun b hb => by
  obtain ⟨k, hk, rfl⟩ := List.mem_map.mp hb
  have hk := List.mem_range.mp hk
  obtain ⟨hx, hy⟩ := pick_x h ho ht
  obtain ⟨hr, hs⟩ := pick_c h hc hk
  have := Tr.run_bits wf hx hy hr hs
  exact ⟨by omega, this.2⟩
/-- a row is empty just if the tree is at its end -/
theorem run_nil {t : Tr} {x y r s : Nat} (h : (t.run x y r s).1 = []) : ∃ a b, t = .fin a b := by
  cases t with
  | fin a b => exact ⟨a, b, rfl⟩
  | say side bits f g => simp [Tr.run] at h
theorem fin_rows {Z : Sz} {a b : List (List Int)} {side own coin other : Nat} : ∀ r ∈ rowsOf Z (.fin a b) side own coin other, r = [] := fun r hr => by
  obtain ⟨k, _, rfl⟩ := List.mem_map.mp hr
  rfl
/-- the rows that two counts tell apart, rising -/
def unl (r1 r2 : List (List Int)) : List (List Int) := (srt (r1 ++ r2)).filter fun b => decide (¬ r1.count b = r2.count b)
theorem unl_nil {r1 r2 : List (List Int)} : unl r1 r2 = [] ↔ ∀ b, r1.count b = r2.count b := by
  unfold unl
  rw [List.filter_eq_nil_iff]
  constructor
  · intro h b
    by_cases hb : b ∈ r1 ++ r2
    · have := h b ((mem_srt b _).mpr hb)
      simpa using this
    · rw [List.mem_append, not_or] at hb
      rw [List.count_eq_zero_of_not_mem hb.1, List.count_eq_zero_of_not_mem hb.2]
  · intro h b _
    simp [h b]
theorem ins_len (x : List Int) : ∀ l, (ins_ x l).length ≤ l.length + 1
  | [] => by simp [ins_]
  | y :: l => by
    have := ins_len x l
    unfold ins_
    split
    · simp
    · split
      · simp
      · simp only [List.length_cons]; omega
theorem srt_len : ∀ l, (srt l).length ≤ l.length
  | [] => Nat.le_refl _
  | x :: l => by
    have := srt_len l
    have := ins_len x (srt l)
    show (ins_ x (srt l)).length ≤ _
    simp only [List.length_cons]
    omega
theorem unl_len (r1 r2 : List (List Int)) : (unl r1 r2).length ≤ r1.length + r2.length := by
  have h := List.length_filter_le (fun b => decide (¬ r1.count b = r2.count b)) (srt (r1 ++ r2))
  have := srt_len (r1 ++ r2)
  rw [List.length_append] at this
  unfold unl
  omega
def pairI (x y : Nat) : D := .tup [.int x, .int y]
def learnD (side own coin y z : Nat) (r1 r2 : List (List Int)) (b : List Int) : D := .tup [.str "learns", .int side, .int own, .int coin, .tup [.int y, .int z], bitsD b, .tup [.int (r1.count b : Nat), .int (r2.count b : Nat)]]
theorem learnD_T (side own coin y z : Nat) (r1 r2 : List (List Int)) (b : List Int) : (learnD side own coin y z r1 r2 b).T = true := by simp [learnD, D.T, D.TL, bitsD, TL_ints]
section
variable (Z : Sz) (t : Tr) (M : List (List Int)) (side own coin : Nat)
def ansO (M : List (List Int)) (side own other : Nat) : Int := if side = 0 then get2 M own other else get2 M other own
/-- what two others' inputs y, z teach -/
def lrnPair (y z : Nat) : List D := (unl (rowsOf Z t side own coin y) (rowsOf Z t side own coin z)).map (learnD side own coin y z (rowsOf Z t side own coin y) (rowsOf Z t side own coin z))
def lrn2 (y z : Nat) : List D := if ansO M side own y = ansO M side own z then lrnPair Z t side own coin y z else []
def lrn1 (n y : Nat) : List D := (List.range (n - (y + 1))).flatMap fun i => lrn2 Z t M side own coin y (y + 1 + i)
def lrnC : List D := (List.range (Z.sz (1 - side))).flatMap (lrn1 Z t M side own coin (Z.sz (1 - side)))
def lrnO : List D := (List.range (Z.cn side)).flatMap fun coin => lrnC Z t M side own coin
def lrnS : List D := (List.range (Z.sz side)).flatMap fun own => lrnO Z t M side own
def lrnA : List D := (List.range 2).flatMap fun side => lrnS Z t M side
end
theorem flat_snoc {α : Type} (f : Nat → List α) (i : Nat) : (List.range (i + 1)).flatMap f = (List.range i).flatMap f ++ f i := by
  rw [List.range_succ, List.flatMap_append]
  simp
theorem flat_nil {α : Type} {f : Nat → List α} {n : Nat} (h : ∀ j, j < n → f j = []) : (List.range n).flatMap f = [] := by
  induction n with
  | zero => rfl
  | succ n ih => rw [flat_snoc, ih fun j hj => h j (by omega), h n (by omega)]; rfl
theorem flat_head {α : Type} {f : Nat → List α} {i : Nat} {d : α} (h0 : ∀ j, j < i → f j = []) (h : (f i).head? = some d) : ∀ {n : Nat}, i < n → ((List.range n).flatMap f).head? = some d
  | 0, hn => by omega
  | n + 1, hn => by
    rw [flat_snoc]
    by_cases e : i = n
    · subst e
      rw [flat_nil h0]
      exact h
    · have := flat_head h0 h (n := n) (by omega)
      cases hl : (List.range n).flatMap f with
      | nil => rw [hl] at this; cases this
      | cons a l => rw [hl] at this; exact this
theorem flat_len {α : Type} {f : Nat → List α} {c : Nat} (h : ∀ j, (f j).length ≤ c) : ∀ n : Nat, ((List.range n).flatMap f).length ≤ n * c
  | 0 => by simp
  | n + 1 => by
    have := flat_len h n
    have := h n
    rw [flat_snoc, List.length_append, Nat.succ_mul]
    omega
theorem lrn2_len {Z : Sz} (z : Z.Ok) (t : Tr) (M : List (List Int)) (side own coin y w : Nat) : (lrn2 Z t M side own coin y w).length ≤ 6 := by
  unfold lrn2
  split
  · unfold lrnPair
    rw [List.length_map]
    have := unl_len (rowsOf Z t side own coin y) (rowsOf Z t side own coin w)
    rw [rowsOf_len, rowsOf_len] at this
    have hc : Z.cn (1 - side) ≤ 3 := by
      unfold Sz.cn
      have := z.r3
      have := z.s3
      split <;> omega
    omega
  · simp
theorem sz_le4 {Z : Sz} (z : Z.Ok) (side : Nat) : Z.sz side ≤ 4 := by
  unfold Sz.sz
  have := z.x4
  have := z.y4
  split <;> omega
theorem cn_le3 {Z : Sz} (z : Z.Ok) (side : Nat) : Z.cn side ≤ 3 := by
  unfold Sz.cn
  have := z.r3
  have := z.s3
  split <;> omega
theorem mul_le' {a b c d : Nat} (h : a ≤ b * c) (hb : b ≤ d) : a ≤ d * c := Nat.le_trans h (Nat.mul_le_mul_right c hb)
theorem lrn1_len {Z : Sz} (z : Z.Ok) (t : Tr) (M : List (List Int)) (side own coin n y : Nat) (hn : n ≤ 4) : (lrn1 Z t M side own coin n y).length ≤ 24 :=
  mul_le' (d := 4) (flat_len (fun j => lrn2_len z t M side own coin y (y + 1 + j)) _) (by omega)
theorem lrnC_len {Z : Sz} (z : Z.Ok) (t : Tr) (M : List (List Int)) (side own coin : Nat) : (lrnC Z t M side own coin).length ≤ 96 :=
  mul_le' (d := 4) (flat_len (fun j => lrn1_len z t M side own coin _ j (sz_le4 z _)) _) (sz_le4 z _)
theorem lrnO_len {Z : Sz} (z : Z.Ok) (t : Tr) (M : List (List Int)) (side own : Nat) : (lrnO Z t M side own).length ≤ 288 :=
  mul_le' (d := 3) (flat_len (fun j => lrnC_len z t M side own j) _) (cn_le3 z _)
theorem lrnS_len {Z : Sz} (z : Z.Ok) (t : Tr) (M : List (List Int)) (side : Nat) : (lrnS Z t M side).length ≤ 1152 :=
  mul_le' (d := 4) (flat_len (fun j => lrnO_len z t M side j) _) (sz_le4 z _)
theorem TL_flat {f : Nat → List D} (h : ∀ j, D.TL (f j) = true) (n : Nat) : D.TL ((List.range n).flatMap f) = true := by
  induction n with
  | zero => rfl
  | succ n ih => rw [flat_snoc]; exact TL_append ih (h n)
theorem lrn2_T (Z : Sz) (t : Tr) (M : List (List Int)) (side own coin y z : Nat) : D.TL (lrn2 Z t M side own coin y z) = true := by
  unfold lrn2
  split
  · exact TL_map _ (fun b => learnD_T _ _ _ _ _ _ _ b) _
  · rfl
theorem lrn1_T (Z : Sz) (t : Tr) (M : List (List Int)) (side own coin n y : Nat) : D.TL (lrn1 Z t M side own coin n y) = true := TL_flat (fun j => lrn2_T Z t M side own coin y _) _
theorem lrnC_T (Z : Sz) (t : Tr) (M : List (List Int)) (side own coin : Nat) : D.TL (lrnC Z t M side own coin) = true := TL_flat (fun j => lrn1_T Z t M side own coin _ j) _
theorem lrnO_T (Z : Sz) (t : Tr) (M : List (List Int)) (side own : Nat) : D.TL (lrnO Z t M side own) = true := TL_flat (fun j => lrnC_T Z t M side own j) _
theorem lrnS_T (Z : Sz) (t : Tr) (M : List (List Int)) (side : Nat) : D.TL (lrnS Z t M side) = true := TL_flat (fun j => lrnO_T Z t M side j) _
theorem lrnA_T (Z : Sz) (t : Tr) (M : List (List Int)) : D.TL (lrnA Z t M) = true := TL_flat (fun j => lrnS_T Z t M j) _
/-- nothing is taught where all alike answers come with alike counts -/
theorem lrnC_nil {Z : Sz} {t : Tr} {M : List (List Int)} {side own coin : Nat} (h : ∀ y z, y < Z.sz (1 - side) → z < Z.sz (1 - side) → ansO M side own y = ansO M side own z → ∀ b, (rowsOf Z t side own coin y).count b = (rowsOf Z t side own coin z).count b) : lrnC Z t M side own coin = [] :=
  flat_nil fun y hy => flat_nil fun i hi => by
    unfold lrn2
    split
    · rename_i e
      unfold lrnPair
      rw [unl_nil.mpr (h y (y + 1 + i) hy (by omega) e)]
      rfl
    · rfl
/-- all of D that is taught is small -/
theorem lrnA_sm {Z : Sz} {t : Tr} {M : List (List Int)} : ∀ d ∈ lrnA Z t M, ∃ side own coin y z b, d = learnD side own coin y z (rowsOf Z t side own coin y) (rowsOf Z t side own coin z) b ∧ b ∈ srt (rowsOf Z t side own coin y ++ rowsOf Z t side own coin z) ∧ side < 2 ∧ own < Z.sz side ∧ coin < Z.cn side ∧ y < Z.sz (1 - side) ∧ z < Z.sz (1 - side) := fun d hd => by
  obtain ⟨side, hs, hd⟩ := List.mem_flatMap.mp hd
  obtain ⟨own, ho, hd⟩ := List.mem_flatMap.mp hd
  obtain ⟨coin, hc, hd⟩ := List.mem_flatMap.mp hd
  obtain ⟨y, hy, hd⟩ := List.mem_flatMap.mp hd
  obtain ⟨i, hi, hd⟩ := List.mem_flatMap.mp hd
  unfold lrn2 at hd
  split at hd
  · obtain ⟨b, hb, rfl⟩ := List.mem_map.mp hd
    have := List.mem_range.mp hs
    have := List.mem_range.mp ho
    have := List.mem_range.mp hc
    have := List.mem_range.mp hy
    have := List.mem_range.mp hi
    exact ⟨side, own, coin, y, y + 1 + i, b, rfl, (List.mem_filter.mp hb).1, by omega, by omega, by omega, by omega, by omega⟩
  · cases hd
/-! ### inputs, each once -/
def addN (l : List Nat) (x : Nat) : List Nat := if x ∈ l then l else l ++ [x]
def inpL (ps : List (Nat × Nat)) : List Nat := ps.foldl (fun l p => addN l p.1) []
theorem inpL_snoc (ps : List (Nat × Nat)) (p : Nat × Nat) : inpL (ps ++ [p]) = addN (inpL ps) p.1 := by simp [inpL, List.foldl_append]
theorem addN_nodup {l : List Nat} (h : l.Nodup) (x : Nat) : (addN l x).Nodup := by
  unfold addN
  split
  · exact h
  · rename_i hx
    rw [List.nodup_append]
    exact ⟨h, by simp, fun a ha b hb => by
      rw [List.mem_singleton.mp hb]
      intro e
      exact hx (e ▸ ha)⟩
theorem mem_addN {l : List Nat} {x y : Nat} : y ∈ addN l x ↔ y ∈ l ∨ y = x := by
  unfold addN
  split
  · rename_i h
    constructor
    · exact .inl
    · rintro (h' | h')
      · exact h'
      · exact h' ▸ h
  · simp
theorem foldl_addN : ∀ (ps : List (Nat × Nat)) (l : List Nat), l.Nodup → (ps.foldl (fun l p => addN l p.1) l).Nodup ∧ ∀ y, y ∈ ps.foldl (fun l p => addN l p.1) l ↔ y ∈ l ∨ ∃ r, (y, r) ∈ ps
  | [], l, h => ⟨h, fun y => by simp⟩
  | p :: ps, l, h => by
    obtain ⟨h1, h2⟩ := foldl_addN ps (addN l p.1) (addN_nodup h p.1)
    refine ⟨h1, fun y => ?_⟩
    rw [List.foldl_cons, h2, mem_addN]
    constructor
    · rintro ((h | h) | ⟨r, h⟩)
      · exact .inl h
      · exact .inr ⟨p.2, by rw [h]; exact List.mem_cons_self⟩
      · exact .inr ⟨r, List.mem_cons_of_mem _ h⟩
    · rintro (h | ⟨r, h⟩)
      · exact .inl (.inl h)
      · rcases List.mem_cons.mp h with e | h
        · exact .inl (.inr (by rw [← e]))
        · exact .inr ⟨r, h⟩
theorem inpL_nodup (ps : List (Nat × Nat)) : (inpL ps).Nodup := (foldl_addN ps [] List.nodup_nil).1
theorem mem_inpL {ps : List (Nat × Nat)} {y : Nat} : y ∈ inpL ps ↔ ∃ r, (y, r) ∈ ps := by
  have := (foldl_addN ps [] List.nodup_nil).2 y
  rw [show inpL ps = ps.foldl (fun l p => addN l p.1) [] from rfl, this]
  simp
theorem inpL_len {ps : List (Nat × Nat)} : (inpL ps).length ≤ ps.length := by
  have : ∀ (ps : List (Nat × Nat)) (l : List Nat), (ps.foldl (fun l p => addN l p.1) l).length ≤ l.length + ps.length := by
    intro ps
    induction ps with
    | nil => intro l; exact Nat.le_refl _
    | cons p ps ih =>
      intro l
      have := ih (addN l p.1)
      have h2 : (addN l p.1).length ≤ l.length + 1 := by
        unfold addN
        split
        · omega
        · simp
      rw [List.foldl_cons, List.length_cons]
      omega
  have := this ps []
  simp only [List.length_nil, Nat.zero_add] at this
  exact this
end JH
set_option Elab.async false
set_option maxRecDepth 100000
set_option maxHeartbeats 4000000
/-! the law's own search: rows in order, inputs, a constant, a bundle -/
namespace JH
open PySem PySem.Spec PyProof.Rows L2 Evl
/-- a def that hands back a new list -/
def spN {α : Type} (args : α → List D) (pre : α → Prop) (res : α → List D) : Sp := fun vs H Q _ => ∃ a : α, DatL H (args a) vs ∧ pre a ∧ ∀ l ws H', H l = none → Ex H H' → H' l = some (.lst ws) → DatL H' (res a) ws → Q (.ref l) H'
abbrev natsD (l : List Nat) : List D := l.map fun n : Nat => D.int n
abbrev natsV (l : List Nat) : List V := l.map fun n : Nat => V.int n
abbrev rowsD (l : List (List Int)) : List D := l.map bitsD
abbrev pairsD (l : List (Nat × Nat)) : List D := l.map fun p => pairD p.1 p.2
theorem rowsD_T (l : List (List Int)) : D.TL (rowsD l) = true := TL_map _ bitsD_T l
theorem pairsD_T (l : List (Nat × Nat)) : D.TL (pairsD l) = true := TL_map _ (fun _ => rfl) l
theorem natsD_T (l : List Nat) : D.TL (natsD l) = true := TL_map _ (fun _ => rfl) l
section
variable {K : PySem.W.Frag} {σ : L2.St} {H H' : Hp} {ta tb tl te : L2.TE} {DD : Ends} {tu tz : TS} {g : TG} {ds : List D}
theorem dat_nats : ∀ {l : List Nat}, DatL H (natsD l) (natsV l)
  | [] => rfl
  | n :: l => ⟨_, _, rfl, rfl, dat_nats⟩
theorem nats_of : ∀ {l : List Nat} {vs : List V}, DatL H (natsD l) vs → vs = natsV l
  | [], _, h => h
  | n :: l, _, h => by
    obtain ⟨v, r, rfl, h2, h3⟩ := h
    have : v = .int n := h2
    rw [this, nats_of h3]
    rfl
theorem en_callN {α : Type} {args : α → List D} {pre : α → Prop} {res : α → List D} {E : XK} {t : TA} (a : α) (h : EvDA t σ H (args a)) (hp : pre a) : EvN (tCall (spN args pre res) [] E t) σ H (res a) := fun H1 e Q q =>
  h H1 e _ fun vs H2 e2 r => ⟨a, by rw [List.append_nil]; exact r, hp, fun l ws H3 hl e3 h3 d3 => q l ws H3 (fresh_back e2 hl) (e2.trans e3) h3 d3⟩
theorem ed_ltT {a b : List Int} (ha : EvD ta σ H (bitsD a)) (hb : EvD tb σ H (bitsD b)) : EvD (tOp (rLtT K) ta tb) σ H (.bl (lt_ a b)) := fun H1 e1 Q q =>
  ha H1 e1 _ fun v H2 e2 ⟨p, vs, ev, hv, hd⟩ => hb H2 (e1.trans e2) _ fun u H3 e3 ⟨p', us, eu, hu, hd'⟩ => by
    have e1 := DatL.of_ints hd
    have e4 := DatL.of_ints hd'
    subst e1 e4
    exact ⟨p, p', a, b, ev, eu, SqT.of (e3 p _ hv), SqT.of hu, q _ H3 (e2.trans e3) rfl⟩
theorem inV_nats {x : Nat} : ∀ l : List Nat, inV (.int x) (natsV l) = decide (x ∈ l)
  | [] => by simp [inV]
  | n :: l => by
    have ih := inV_nats (x := x) l
    unfold inV at ih ⊢
    show ((V.int (n : Int) :: natsV l).any fun y => eqV y (V.int (x : Int))) = _
    rw [List.any_cons, ih]
    have : eqV (.int (n : Int)) (.int (x : Int)) = decide (n = x) := by
      show ((n : Int) == (x : Int)) = _
      rw [Bool.beq_eq_decide_eq]
      exact decide_eq_decide.mpr (by omega)
    rw [this]
    by_cases e : n = x
    · subst e; simp
    · have e' : x ≠ n := fun z => e z.symm
      simp [e, e']
theorem flat_nats (l : List Nat) : (natsV l).all flatV = true := by
  rw [List.all_eq_true]
  intro v hv
  obtain ⟨n, _, rfl⟩ := List.mem_map.mp hv
  rfl
theorem ed_notInN {x : Nat} {l : List Nat} (ha : EvD ta σ H (.int x)) (hb : EvD tb σ H (.lst (natsD l))) : EvD (tOp (rIn K true) ta tb) σ H (.bl (!decide (x ∈ l))) := fun H1 e1 Q q =>
  ev_i ha H1 e1 _ fun H2 e2 => hb H2 (e1.trans e2) _ fun u H3 e3 ⟨p, us, eu, hu, hd⟩ => by
    have e4 := nats_of hd
    subst e4
    exact ⟨p, _, eu, .inl (SqL.of hu), rfl, flat_nats l, q _ H3 (e2.trans e3) (by show V.bl (!inV _ _) = _; rw [inV_nats])⟩
theorem ed_inN {x : Nat} {l : List Nat} (ha : EvD ta σ H (.int x)) (hb : EvD tb σ H (.lst (natsD l))) : EvD (tOp (rIn K false) ta tb) σ H (.bl (decide (x ∈ l))) := fun H1 e1 Q q =>
  ev_i ha H1 e1 _ fun H2 e2 => hb H2 (e1.trans e2) _ fun u H3 e3 ⟨p, us, eu, hu, hd⟩ => by
    have e4 := nats_of hd
    subst e4
    exact ⟨p, _, eu, .inl (SqL.of hu), rfl, flat_nats l, q _ H3 (e2.trans e3) (by show V.bl (inV _ _) = _; rw [inV_nats])⟩
theorem ed_inB {b : Bool} {bs : List Bool} (ha : EvD ta σ H (.bl b)) (hb : EvD tb σ H (.lst (bs.map D.bl))) : EvD (tOp (rIn K false) ta tb) σ H (.bl (inV (.bl b) (bs.map V.bl))) := fun H1 e1 Q q =>
  ev_b ha H1 e1 _ fun H2 e2 => hb H2 (e1.trans e2) _ fun u H3 e3 ⟨p, us, eu, hu, hd⟩ => by
    have e4 := DatL.of_bls hd
    subst e4
    refine ⟨p, _, eu, .inl (SqL.of hu), rfl, ?_, q _ H3 (e2.trans e3) rfl⟩
    rw [List.all_eq_true]
    intro v hv
    obtain ⟨n, _, rfl⟩ := List.mem_map.mp hv
    rfl
/-- over a list whose place is known -/
theorem s_forA {a : Addr} {us : List V} (h : Ev tl σ H (.ref a)) (hv : H a = some (.lst us)) (hd : DatL H ds us) (hT : D.TL ds = true) (Pv : Nat → L2.St → Hp → Prop) (h0 : ∀ H1, Ex H H1 → Pv 0 σ H1) (hk : ∀ i σ' H', Pv i σ' H' → TE H H' ∧ H' a = H a)
    (hs : ∀ (i : Nat) d v σ' H', ds[i]? = some d → Pv i σ' H' → Dat H' d v → g v σ' H' fun σ2 H2 => tu { DD with nx := Pv (i + 1), ct := Pv (i + 1), bk := DD.nx } σ2 H2)
    (hdn : ∀ σ' H', Pv ds.length σ' H' → DD.nx σ' H') : tFor (iList K tl) g tu DD σ H :=
  Evl.s_forL h (SqL.of hv) Pv h0 (fun i σ' H' _ p => SqL.of ((hk i σ' H' p).2.trans hv)) (fun i x σ' H' hi p => by
    obtain ⟨d, h1, h2⟩ := hd.getV hi
    exact hs i d x σ' H' h1 p (h2.te (hk i σ' H' p).1 (TL_get hT h1))) (fun σ' H' p => hdn σ' H' (by rw [← hd.length]; exact p))
theorem q_forA {a : Addr} {us : List V} (h : Ev tl σ H (.ref a)) (hv : H a = some (.lst us)) (hd : DatL H ds us) (hT : D.TL ds = true) (Pv : Nat → L2.St → Hp → Prop) (h0 : ∀ H1, Ex H H1 → Pv 0 σ H1) (hk : ∀ i σ' H', Pv i σ' H' → TE H H' ∧ H' a = H a)
    (hs : ∀ (i : Nat) d v σ' H', ds[i]? = some d → Pv i σ' H' → Dat H' d v → g v σ' H' fun σ2 H2 => tu { DD with nx := Pv (i + 1), ct := Pv (i + 1), bk := tz DD } σ2 H2)
    (hdn : ∀ σ' H', Pv ds.length σ' H' → tz DD σ' H') : tSeq (tFor (iList K tl) g tu) tz DD σ H := s_forA (DD := { DD with nx := tz DD }) h hv hd hT Pv h0 hk hs hdn
/-- a pair is unpacked -/
theorem g_pair {i j x y : Nat} {v : V} {Q : L2.St → Hp → Prop} (h : Dat H (pairD x y) v) (k : Q ((σ.set i (some (.int (x : Int)))).set j (some (.int (y : Int)))) H) : gTup K 2 (gCons (gName i) (gCons (gName j) gNil)) v σ H Q := by
  obtain ⟨a, us, rfl, h1, h2⟩ := h
  obtain ⟨u, v, rfl, h3, h4⟩ := datL2 h2
  cases (show u = V.int x from h3)
  cases (show v = V.int y from h4)
  exact ⟨a, _, rfl, SqT.of h1, rfl, _, _, rfl, _, _, rfl, rfl, k⟩
end
/-! ### the least row -/
theorem lt_least {l : List (List Int)} {j n : Nat} (hj : j < l.length) (hn : n = l.length) (h : ∀ k, k < n → lt_ (l.getD k []) (l.getD j []) = false) : ∀ b ∈ l, lt_ b (l.getD j []) = false := fun b hb => by
  obtain ⟨k, hk, e⟩ := List.mem_iff_getElem.mp hb
  have := h k (by omega)
  rw [List.getD_eq_getElem?_getD (l := l) (i := k), List.getElem?_eq_getElem hk] at this
  rw [← e]
  exact this
theorem perm_erase {α : Type} : ∀ {l : List α} {j : Nat} (h : j < l.length), l.Perm (l[j] :: l.eraseIdx j)
  | a :: l, 0, _ => List.Perm.refl _
  | a :: l, j + 1, h => by
    have h' : j < l.length := by simpa using h
    have := (perm_erase h').cons a
    exact this.trans (List.Perm.swap _ _ _)
theorem map_erase {α β : Type} (f : α → β) : ∀ (l : List α) (j : Nat), (l.eraseIdx j).map f = (l.map f).eraseIdx j
  | [], _ => rfl
  | _ :: _, 0 => rfl
  | a :: l, j + 1 => by
    show f a :: (l.eraseIdx j).map f = f a :: (l.map f).eraseIdx j
    rw [map_erase f l j]
theorem getD_get {l : List (List Int)} {j : Nat} (hj : j < l.length) : l.getD j [] = l[j] := by
  rw [List.getD_eq_getElem?_getD, List.getElem?_eq_getElem hj]; rfl
theorem getD_row {l : List (List Int)} {j : Nat} (hj : j < l.length) : (rowsD l)[j]? = some (bitsD (l.getD j [])) := by
  rw [List.getElem?_map, List.getElem?_eq_getElem hj, getD_get hj]; rfl
def ConstV (M : List (List Int)) (rows cols : List (Nat × Nat)) (v : V) : Prop :=
  (v = .non ∧ ∃ p ∈ rows, ∃ p' ∈ rows, ∃ q ∈ cols, ∃ q' ∈ cols, get2 M p.1 q.1 ≠ get2 M p'.1 q'.1) ∨ ∃ c : Int, v = .int c ∧ ∀ p ∈ rows, ∀ q ∈ cols, get2 M p.1 q.1 = c
def sp_constant : Sp := fun vs H Q _ => ∃ (X Y : Nat) (M : List (List Int)) (rows cols : List (Nat × Nat)), DatL H [mat M, .lst (pairsD rows), .lst (pairsD cols)] vs ∧ Sh X Y M ∧ (∀ p ∈ rows, p.1 < X) ∧ (∀ p ∈ cols, p.1 < Y) ∧ ∀ v H', Ex H H' → ConstV M rows cols v → Q v H'
def sp_bundle : Sp := fun vs H Q _ => ∃ (Z : Sz) (M : List (List Int)) (l o : List Nat) (side : Nat), DatL H [mat M, .lst (natsD l), .lst (natsD o), .int side] vs ∧ Sh Z.X Z.Y M ∧ side < 2 ∧ l ≠ [] ∧ l.length ≤ 1000 ∧ (∀ x ∈ l, x < Z.sz side) ∧ (∀ x ∈ o, x < Z.sz (1 - side)) ∧
  ∀ p H' b, H p = none → Ex H H' → H' p = some (.lst (natsV b)) → b ≠ [] → b.Nodup → (∀ x ∈ b, x ∈ l) → Q (.ref p) H'
section
variable {P : Program} {w : World} {K : PySem.W.Frag} {mg : Str → Option Value} {base : Heap} {C : Addr}
abbrev sp_rising : Sp := spN (fun l : List (List Int) => [.lst (rowsD l)]) (fun l => l.Nodup ∧ l.length ≤ 1000) (fun l => rowsD (srt l))
abbrev K_law_rising (P : Program) (w : World) (K : PySem.W.Frag) (mg : Str → Option Value) (base : Heap) : Prop := Fk P w K mg base "_law_rising" ["_law_rows"] 1 sp_rising
theorem sc_law_rising : FnScope ["_law_rows", "_law_left", "_law_found", "_law_step", "_law_least", "_law_k"] ["_law_rows"] (defScope s_law_rising) := ⟨rfl, rfl, rfl, by decide +kernel, rfl, by decide +kernel, by decide +kernel⟩
theorem ok_law_rising {f : Addr} {fd : FuncData} (F : FnP K "_law_rising" "_law_rising" s_law_rising f fd) (T : Txt mg)  : FnOk P w K mg base CX0 1 f fd ["_law_rows"] (sp_rising) := by
  refine FunD.ok F sc_law_rising (fun vs H Q E h => ?_) (fun cdv A outer s H vs Q E hr h => ?_)
  · obtain ⟨a, hd, _⟩ := h
    exact hd.length
  · obtain ⟨l, hd, ⟨nd, hl⟩, k⟩ := h
    obtain ⟨v1, rfl, h1⟩ := datL1 hd
    refine ⟨_, PSs.nox (pss_cons (psv 1 sc_law_rising.nd (pe_callTy (k_list (K := K)) (by rfl) T.list bt_list (pa_cons (pv 0) pa_nil)))
    (pss_cons (psv 2 sc_law_rising.nd (pe_lst pa_nil))
    (pss_cons (ps_for PassesOwn.never (by rfl) (pi_range1 (by rfl) T.range (pa_cons (pe_callB (k_len (K := K)) (by rfl) T.len bt_len (pa_cons (pv 0) pa_nil)) pa_nil)) (pgv 3 sc_law_rising.nd)
    (pss_cons (psv 4 sc_law_rising.nd pe_int)
    (pss_cons (ps_for PassesOwn.never (by rfl) (pi_range2 (by rfl) T.range (pa_cons pe_int (pa_cons (pe_callB (k_len (K := K)) (by rfl) T.len bt_len (pa_cons (pv 1) pa_nil)) pa_nil))) (pgv 5 sc_law_rising.nd)
    (pss_one (ps_if (pt_cmpR (k_ltT (K := K) hr.units0) (pe_ix (k_ixL (K := K)) (pv 1) (pv 5) (fun _ _ => rfl)) (pe_ix (k_ixL (K := K)) (pv 1) (pv 4) (fun _ _ => rfl)) (nomark _))
    (pss_one (psv 4 sc_law_rising.nd (pv 5)))
    pss_nil)))
    (pss_one (ps_expr (k_append (K := K) (pv 2) (pa_cons (k_popAt (K := K) (pv 1) (pa_cons (pv 4) pa_nil)) pa_nil)))))))
    (pss_one (ps_ret (pv 2)))))), ?_⟩
    refine q_asgN (en_listL (ed_var rfl h1)) fun a us H1 a0 e1 ha hus => ?_
    refine q_asgN (ds := []) (en_lst eda_nil (by simp)) fun b vs H2 b0 e2 hb hvs => ?_
    have evs : vs = [] := hvs
    subst evs
    have e12 := e1.trans e2
    have b0' : H b = none := fresh_back e1 b0
    have nab : a ≠ b := fun z => by rw [z] at ha; rw [ha] at b0; cases b0
    refine q_forR (n := l.length) (ed_is (ed_lenL (ed_var rfl (h1.ex e12))) (by simp)) (by omega) (fun i σ' H' => ∃ (ls fs : List (List Int)) (us ws : List V) (o1 o2 o3 : Option V), σ' = [some v1, some (.ref a), some (.ref b), o1, o2, o3] ∧ Ex H H' ∧ H' a = some (.lst us) ∧ DatL H' (rowsD ls) us ∧ H' b = some (.lst ws) ∧ DatL H' (rowsD fs) ws ∧
      (fs ++ ls).Perm l ∧ fs.length = i ∧ fs.Pairwise (fun x y => lt_ y x = false) ∧ ∀ x ∈ fs, ∀ y ∈ ls, lt_ y x = false) (fun H3 e3 => ⟨l, [], us, [], none, none, none, rfl, e12.trans e3, (e2.trans e3) _ _ ha, hus.ex (e2.trans e3), e3 _ _ hb, rfl, List.Perm.refl _, rfl, List.Pairwise.nil, fun x hx => by cases hx⟩) ?_ ?_
    · rintro i σ' H' hi ⟨ls, fs, us, ws, o1, o2, o3, rfl, ex, ha', hus', hb', hws', pm, hfl, pw, hle⟩
      have hlen : fs.length + ls.length = l.length := by rw [← List.length_append]; exact pm.length_eq
      have hl0 : 0 < ls.length := by omega
      have hdl : Dat H' (.lst (rowsD ls)) (.ref a) := Dat.lst ha' hus'
      refine q_asg (v := .int (0 : Nat)) ev_c fun H3 e3 => ?_
      refine q_forR2 (lo := 1) (n := ls.length) ed_ci (ed_is (ed_lenL (ed_var rfl (hdl.ex e3))) (by simp)) (by decide) (by omega) (fun j σ2 H2 => ∃ (m : Nat) (o3 : Option V), σ2 = [some v1, some (.ref a), some (.ref b), some (.int i), some (.int (m : Int)), o3] ∧ Ex H' H2 ∧ m < ls.length ∧ ∀ k, k < 1 + j → lt_ (ls.getD k []) (ls.getD m []) = false) (fun H4 e4 => ⟨0, o3, rfl, e3.trans e4, hl0, fun k hk => by
        have : k = 0 := by omega
        subst this
        exact lt_irr _⟩) ?_ ?_
      · rintro j σ2 H2 hj ⟨m, o3, rfl, ex2, hm, hle2⟩
        refine s_when (b := lt_ (ls.getD (1 + j) []) (ls.getD m [])) (et_b (ed_ltT (ed_ixL (j := 1 + j) (ed_var rfl (hdl.ex ex2)) (ed_var (d := .int ((1 + j : Nat) : Int)) rfl rfl) rfl (getD_row hj)) (ed_ixL (j := m) (ed_var rfl (hdl.ex ex2)) (ed_var (d := .int (m : Int)) rfl rfl) rfl (getD_row hm)))) (fun hb H4 e4 => ?_) (fun hb H4 e4 => ?_)
        · refine s_asg (ev_var rfl) fun H5 e5 => ⟨1 + j, _, rfl, ex2.trans (e4.trans e5), hj, fun k hk => ?_⟩
          by_cases e : k = 1 + j
          · subst e; exact lt_irr _
          · have h1 := hle2 k (by omega)
            exact lt_ntr _ _ _ (lt_asym _ _ hb) h1
        · refine ⟨m, _, rfl, ex2.trans e4, hm, fun k hk => ?_⟩
          by_cases e : k = 1 + j
          · subst e; exact hb
          · exact hle2 k (by omega)
      · rintro σ2 H2 ⟨m, o3, rfl, ex2, hm, hle2⟩
        have ha2 := ex2 _ _ ha'
        have hb2 := ex2 _ _ hb'
        have hus2 := hus'.ex ex2
        have hws2 := hws'.ex ex2
        obtain ⟨v, hv, dv⟩ := hus2.get (getD_row hm)
        have hul := hus2.length
        have hwl := hws2.length
        rw [List.length_map] at hul hwl
        have nab' : b ≠ a := fun z => nab z.symm
        refine ⟨_, rfl, .inl ⟨rfl, ws, sq_of hb2⟩, _, rfl, .inl ⟨rfl, us, sq_of ha2⟩, _, rfl, a, us, (m : Int), m, v, rfl, rfl, ha2, by omega, by omega, ?_, hv, b, ws, v, rfl, rfl, by rw [upd_ne nab']; exact hb2, sz_lt (by omega), ?_⟩
        · rw [PySem.seqIndex_of (by omega) (by rw [hul]; omega)]
          simp
        · have te1 : TE H2 (upd H2 a (.lst (us.eraseIdx m))) := TE.upd ha2
          have hb3 : (upd H2 a (.lst (us.eraseIdx m))) b = some (.lst ws) := by rw [upd_ne nab']; exact hb2
          have te2 : TE (upd H2 a (.lst (us.eraseIdx m))) (upd (upd H2 a (.lst (us.eraseIdx m))) b (.lst (ws ++ [v]))) := TE.upd hb3
          have te3 := te1.trans te2
          have ex3 : Ex H (upd (upd H2 a (.lst (us.eraseIdx m))) b (.lst (ws ++ [v]))) := Ex.mut (Ex.mut (ex.trans ex2) a0) b0'
          have hdel : DatL H2 (rowsD (ls.eraseIdx m)) (us.eraseIdx m) := by
            have := hus2.eraseIdx m
            rw [show rowsD (ls.eraseIdx m) = (rowsD ls).eraseIdx m from map_erase _ _ _]
            exact this
          have hms := lt_least hm rfl (fun k hk => hle2 k (by omega))
          have pe := perm_erase hm
          refine ⟨ls.eraseIdx m, fs ++ [ls.getD m []], us.eraseIdx m, ws ++ [v], _, _, _, rfl, ex3, by rw [upd_ne nab, upd_same], hdel.te te3 (rowsD_T _), upd_same, ?_, ?_, by rw [List.length_append, List.length_singleton]; omega, ?_, ?_⟩
          · rw [rowsD, List.map_append]
            exact (hws2.te te3 (rowsD_T _)).snoc (dv.te te3 (bitsD_T _))
          · rw [getD_get hm, List.append_assoc]
            exact ((pe.symm).append_left fs).trans pm
          · rw [List.pairwise_append]
            refine ⟨pw, by simp, fun x hx y hy => ?_⟩
            rw [List.mem_singleton.mp hy, getD_get hm]
            exact hle x hx _ (List.getElem_mem hm)
          · intro x hx y hy
            have hy' : y ∈ ls := List.mem_of_mem_eraseIdx hy
            rcases List.mem_append.mp hx with hx | hx
            · exact hle x hx y hy'
            · rw [List.mem_singleton.mp hx]
              exact hms y hy'
    · rintro σ' H' ⟨ls, fs, us, ws, o1, o2, o3, rfl, ex, ha', hus', hb', hws', pm, hfl, pw, hle⟩
      refine s_ret (ev_var rfl) fun H3 e3 => k b ws H3 b0' (ex.trans e3) (e3 _ _ hb') ?_
      have hlen : fs.length + ls.length = l.length := by rw [← List.length_append]; exact pm.length_eq
      have hls : ls = [] := List.eq_nil_of_length_eq_zero (by omega)
      subst hls
      rw [List.append_nil] at pm
      show DatL H3 (rowsD (srt l)) ws
      rw [← srt_of (pm.nodup_iff.mpr nd) pw fun b => pm.mem_iff]
      exact hws'.ex e3
abbrev sp_inputs : Sp := spN (fun ps : List (Nat × Nat) => [.lst (pairsD ps)]) (fun ps => ps.length ≤ 1000) (fun ps => natsD (inpL ps))
abbrev K_law_inputs (P : Program) (w : World) (K : PySem.W.Frag) (mg : Str → Option Value) (base : Heap) : Prop := Fk P w K mg base "_law_inputs" ["_law_pairs"] 1 sp_inputs
theorem sc_law_inputs : FnScope ["_law_pairs", "_law_found", "_law_one", "_law_coin"] ["_law_pairs"] (defScope s_law_inputs) := ⟨rfl, rfl, rfl, by decide +kernel, rfl, by decide +kernel, by decide +kernel⟩
theorem ok_law_inputs {f : Addr} {fd : FuncData} (F : FnP K "_law_inputs" "_law_inputs" s_law_inputs f fd) (T : Txt mg)  : FnOk P w K mg base CX0 1 f fd ["_law_pairs"] (sp_inputs) := by
  refine FunD.ok F sc_law_inputs (fun vs H Q E h => ?_) (fun cdv A outer s H vs Q E hr h => ?_)
  · obtain ⟨a, hd, _⟩ := h
    exact hd.length
  · obtain ⟨ps, hd, hl, k⟩ := h
    obtain ⟨v1, rfl, h1⟩ := datL1 hd
    obtain ⟨a, us, rfl, ha, hus⟩ := h1
    refine ⟨_, PSs.nox (pss_cons (psv 1 sc_law_inputs.nd (pe_lst pa_nil))
    (pss_cons (ps_for PassesOwn.never (by rfl) (k_pL (K := K) (pv 0)) (k_gtup (K := K) (by rfl) (pgs_cons (pgv 2 sc_law_inputs.nd) (pgs_cons (pgv 3 sc_law_inputs.nd) pgs_nil)))
    (pss_one (ps_if (pt_cmpR (k_notIn (K := K)) (pv 2) (pv 1) (by rfl))
    (pss_one (ps_expr (k_append (K := K) (pv 1) (pa_cons (pv 2) pa_nil))))
    pss_nil)))
    (pss_one (ps_ret (pv 1))))), ?_⟩
    refine q_asgN (ds := []) (en_lst eda_nil (by simp)) fun b vs H1 b0 e1 hb hvs => ?_
    have evs : vs = [] := hvs
    subst evs
    have nab : a ≠ b := fun z => by rw [z] at ha; rw [ha] at b0; cases b0
    refine q_forA (ev_var rfl) (e1 _ _ ha) (hus.ex e1) (pairsD_T _) (fun i σ' H' => ∃ (o1 o2 : Option V), σ' = [some (.ref a), some (.ref b), o1, o2] ∧ Ex H H' ∧ TE H1 H' ∧ H' b = some (.lst (natsV (inpL (ps.take i))))) (fun H2 e2 => ⟨none, none, rfl, e1.trans e2, TE.ex e2, e2 _ _ hb⟩)
      (fun i σ' H' ⟨o1, o2, _, ex, te, _⟩ => ⟨te, (ex _ _ ha).trans (e1 _ _ ha).symm⟩) ?_ ?_
    · rintro i d v σ' H' hi ⟨o1, o2, rfl, ex, te, hb'⟩ hdv
      rw [List.getElem?_map] at hi
      obtain ⟨p, hp, rfl⟩ := Option.map_eq_some_iff.mp hi
      refine g_pair hdv ?_
      have tk : ps.take (i + 1) = ps.take i ++ [p] := by rw [List.take_add_one, hp]; rfl
      have hln : (inpL (ps.take i)).length ≤ 1000 := by
        have := inpL_len (ps := ps.take i)
        rw [List.length_take] at this
        omega
      refine s_when (b := !decide (p.1 ∈ inpL (ps.take i))) (et_b (ed_notInN (l := inpL (ps.take i)) (ed_var (d := .int (p.1 : Int)) rfl rfl) (ed_var rfl (Dat.lst hb' dat_nats)))) (fun hc H3 e3 => ?_) (fun hc H3 e3 => ?_)
      · refine s_app (v := .int (p.1 : Int)) (e3 _ _ hb') (ev_var rfl) (ev_var rfl) (by rw [List.length_map]; omega) fun H4 e4 => ⟨_, _, rfl, Ex.mut (ex.trans (e3.trans e4)) b0, ?_, ?_⟩
        · exact (te.trans (TE.ex (e3.trans e4))).trans (TE.upd (e4 _ _ (e3 _ _ hb')))
        · rw [upd_same, tk, inpL_snoc]
          unfold addN
          have hni : p.1 ∉ inpL (ps.take i) := by simpa using hc
          rw [if_neg hni]
          show _ = some (HO.lst (List.map _ _))
          rw [List.map_append]
          rfl
      · refine ⟨_, _, rfl, ex.trans e3, te.trans (TE.ex e3), ?_⟩
        rw [tk, inpL_snoc]
        unfold addN
        have hni : p.1 ∈ inpL (ps.take i) := by simpa using hc
        rw [if_pos hni]
        exact e3 _ _ hb'
    · rintro σ' H' ⟨o1, o2, rfl, ex, te, hb'⟩
      rw [List.length_map, List.take_length] at hb'
      exact s_ret (ev_var rfl) fun H3 e3 => k b _ H3 b0 (ex.trans e3) (e3 _ _ hb') dat_nats
end
end JH
set_option Elab.async false
set_option maxRecDepth 100000
set_option maxHeartbeats 4000000
/-! the law's own search: a constant, a bundle -/
namespace JH
open PySem PySem.Spec PyProof.Rows L2 Evl
/-- what is found among the pairs that were seen -/
def FoundV (M : List (List Int)) (S : Nat × Nat → Nat × Nat → Prop) (v : V) : Prop := (v = .non ∧ ∀ p q, ¬ S p q) ∨ ∃ c : Int, v = .int c ∧ (∀ p q, S p q → get2 M p.1 q.1 = c) ∧ ∃ p q, S p q
theorem FoundV.congr {M : List (List Int)} {S S' : Nat × Nat → Nat × Nat → Prop} {v : V} (h : FoundV M S v) (e : ∀ p q, S p q ↔ S' p q) : FoundV M S' v := by
  have : S = S' := funext fun p => funext fun q => propext (e p q)
  rw [← this]
  exact h
def Seen (rows cols : List (Nat × Nat)) (i j : Nat) (p q : Nat × Nat) : Prop := (p ∈ rows.take i ∧ q ∈ cols) ∨ (rows[i]? = some p ∧ q ∈ cols.take j)
theorem mem_take_succ {α : Type} {l : List α} {i : Nat} {a : α} : a ∈ l.take (i + 1) ↔ a ∈ l.take i ∨ l[i]? = some a := by
  rw [List.take_add_one, List.mem_append]
  cases l[i]? <;> simp [eq_comm]
theorem seen_row {rows cols : List (Nat × Nat)} {i : Nat} (p q : Nat × Nat) : Seen rows cols i cols.length p q ↔ Seen rows cols (i + 1) 0 p q := by
  unfold Seen
  rw [mem_take_succ, List.take_length, List.take_zero]
  constructor
  · rintro (⟨h1, h2⟩ | ⟨h1, h2⟩)
    · exact .inl ⟨.inl h1, h2⟩
    · exact .inl ⟨.inr h1, h2⟩
  · rintro (⟨h1 | h1, h2⟩ | ⟨_, h2⟩)
    · exact .inl ⟨h1, h2⟩
    · exact .inr ⟨h1, h2⟩
    · cases h2
theorem seen_next {rows cols : List (Nat × Nat)} {i j : Nat} {a b : Nat × Nat} (ha : rows[i]? = some a) (hb : cols[j]? = some b) (p q : Nat × Nat) : Seen rows cols i (j + 1) p q ↔ Seen rows cols i j p q ∨ (p = a ∧ q = b) := by
  unfold Seen
  rw [mem_take_succ, ha, hb]
  constructor
  · rintro (h | ⟨h1, h2 | h2⟩)
    · exact .inl (.inl h)
    · exact .inl (.inr ⟨h1, h2⟩)
    · exact .inr ⟨(Option.some.inj h1).symm, (Option.some.inj h2).symm⟩
  · rintro ((h | ⟨h1, h2⟩) | ⟨rfl, rfl⟩)
    · exact .inl h
    · exact .inr ⟨h1, .inl h2⟩
    · exact .inr ⟨rfl, .inr rfl⟩
section
variable {P : Program} {w : World} {K : PySem.W.Frag} {mg : Str → Option Value} {base : Heap} {C : Addr}
abbrev K_law_constant (P : Program) (w : World) (K : PySem.W.Frag) (mg : Str → Option Value) (base : Heap) : Prop := Fk P w K mg base "_law_constant" ["_law_table_here", "_law_rows", "_law_columns"] 1 sp_constant
theorem sc_law_constant : FnScope ["_law_table_here", "_law_rows", "_law_columns", "_law_found", "_law_x", "_law_r", "_law_y", "_law_s"] ["_law_table_here", "_law_rows", "_law_columns"] (defScope s_law_constant) := ⟨rfl, rfl, rfl, by decide +kernel, rfl, by decide +kernel, by decide +kernel⟩
theorem ok_law_constant {f : Addr} {fd : FuncData} (F : FnP K "_law_constant" "_law_constant" s_law_constant f fd) (T : Txt mg)  : FnOk P w K mg base CX0 1 f fd ["_law_table_here", "_law_rows", "_law_columns"] (sp_constant) := by
  refine FunD.ok F sc_law_constant (fun vs H Q E h => ?_) (fun cdv A outer s H vs Q E hr h => ?_)
  · obtain ⟨X, Y, M, rows, cols, hd, _⟩ := h
    exact hd.length
  · obtain ⟨X, Y, M, rows, cols, hd, sh, hr1, hc1, k⟩ := h
    obtain ⟨v1, v2, v3, rfl, h1, h2, h3⟩ := datL3 hd
    obtain ⟨a, us, rfl, ha, hus⟩ := h2
    obtain ⟨b, ws, rfl, hb, hws⟩ := h3
    refine ⟨_, PSs.nox (pss_cons (psv 3 sc_law_constant.nd pe_non)
    (pss_cons (ps_for PassesOwn.never (by rfl) (k_pL (K := K) (pv 1)) (k_gtup (K := K) (by rfl) (pgs_cons (pgv 4 sc_law_constant.nd) (pgs_cons (pgv 5 sc_law_constant.nd) pgs_nil)))
    (pss_one (ps_for PassesOwn.never (by rfl) (k_pL (K := K) (pv 2)) (k_gtup (K := K) (by rfl) (pgs_cons (pgv 6 sc_law_constant.nd) (pgs_cons (pgv 7 sc_law_constant.nd) pgs_nil)))
    (pss_cons (ps_if (PW.pt (pw_and (pt_cmpR op_notN (pv 3) pe_non (nomark _)) (pw_and1 (pt_cmpR op_ne (pv 3) (pe_ix (k_ixT (K := K)) (pe_ix (k_ixT (K := K)) (pv 0) (pv 4) (fun _ _ => rfl)) (pv 6) (fun _ _ => rfl)) (nomark _)))))
    (pss_one (ps_ret pe_non))
    pss_nil)
    (pss_one (psv 3 sc_law_constant.nd (pe_ix (k_ixT (K := K)) (pe_ix (k_ixT (K := K)) (pv 0) (pv 4) (fun _ _ => rfl)) (pv 6) (fun _ _ => rfl))))))))
    (pss_cons (ps_if (pt_cmpR op_isN (pv 3) pe_non (nomark _))
    (pss_one (ps_ret pe_int))
    pss_nil)
    (pss_one (ps_ret (pv 3)))))), ?_⟩
    refine q_asg (v := .non) ev_c fun H1 e1 => ?_
    refine q_forA (ev_var rfl) (e1 _ _ ha) (hus.ex e1) (pairsD_T _) (fun i σ' H' => ∃ (v : V) (o1 o2 o3 o4 : Option V), σ' = [some v1, some (.ref a), some (.ref b), some v, o1, o2, o3, o4] ∧ Ex H1 H' ∧ FoundV M (Seen rows cols i 0) v) (fun H2 e2 => ⟨.non, none, none, none, none, rfl, e2, .inl ⟨rfl, fun p q z => by
        rcases z with ⟨z, _⟩ | ⟨_, z⟩ <;> cases z⟩⟩)
      (fun i σ' H' ⟨v, o1, o2, o3, o4, _, ex, _⟩ => ⟨TE.ex ex, (ex _ _ (e1 _ _ ha)).trans (e1 _ _ ha).symm⟩) ?_ ?_
    · rintro i d v' σ' H' hi ⟨v, o1, o2, o3, o4, rfl, ex, fv⟩ hdv
      rw [List.getElem?_map] at hi
      obtain ⟨p, hp, rfl⟩ := Option.map_eq_some_iff.mp hi
      have hpm : p ∈ rows := List.mem_of_getElem? hp
      refine g_pair hdv ?_
      have exH := e1.trans ex
      refine s_forA (ev_var rfl) (exH _ _ hb) (hws.ex exH) (pairsD_T _) (fun j σ2 H2 => ∃ (v : V) (o3 o4 : Option V), σ2 = [some v1, some (.ref a), some (.ref b), some v, some (.int (p.1 : Int)), some (.int (p.2 : Int)), o3, o4] ∧ Ex H' H2 ∧ FoundV M (Seen rows cols i j) v) (fun H2 e2 => ⟨v, o3, o4, rfl, e2, fv⟩)
        (fun j σ2 H2 ⟨v, o3, o4, _, ex2, _⟩ => ⟨TE.ex ex2, (ex2 _ _ (exH _ _ hb)).trans (exH _ _ hb).symm⟩) ?_ ?_
      · rintro j d v' σ2 H2 hj ⟨v, o3, o4, rfl, ex2, fv⟩ hdv2
        rw [List.getElem?_map] at hj
        obtain ⟨q, hq, rfl⟩ := Option.map_eq_some_iff.mp hj
        have hqm : q ∈ cols := List.mem_of_getElem? hq
        refine g_pair hdv2 ?_
        have ex02 := exH.trans ex2
        have cell : ∀ H3, Ex H2 H3 → EvD (tOp (rIxT K) (tOp (rIxT K) (tVar 0) (tVar 4)) (tVar 6)) [some v1, some (.ref a), some (.ref b), some v, some (.int (p.1 : Int)), some (.int (p.2 : Int)), some (.int (q.1 : Int)), some (.int (q.2 : Int))] H3 (.int (get2 M p.1 q.1)) := fun H3 e3 =>
          ed_cell (i := p.1) (j := q.1) (ed_var rfl (h1.ex (ex02.trans e3))) (ed_var (d := .int (p.1 : Int)) rfl rfl) (ed_var (d := .int (q.1 : Int)) rfl rfl) sh (hr1 p hpm) (hc1 q hqm) rfl rfl
        rcases fv with ⟨rfl, fn⟩ | ⟨c, rfl, fc, pq⟩
        · refine q_when (b := false) (et_is (b := false) (et_and (a := !decide (V.non = V.non)) (b := false) (et_b (ed_notN (ev_var rfl))) (fun z => by simp at z)) rfl) (fun z => by cases z) (fun _ H3 e3 => ?_)
          refine s_asgR (cell H3 e3) fun v4 H4 e4 hv4 => ?_
          cases (show v4 = V.int _ from hv4)
          refine ⟨_, _, _, rfl, ex2.trans (e3.trans e4), .inr ⟨get2 M p.1 q.1, rfl, fun p' q' z => ?_, p, q, (seen_next hp hq p q).mpr (.inr ⟨rfl, rfl⟩)⟩⟩
          rcases (seen_next hp hq p' q').mp z with z | ⟨rfl, rfl⟩
          · exact absurd z (fn p' q')
          · rfl
        · refine q_when (b := !decide (c = get2 M p.1 q.1)) (et_is (et_and (a := !decide (V.int c = V.non)) (b := !decide (c = get2 M p.1 q.1)) (et_b (ed_notN (ev_var rfl))) (fun _ => et_b (ed_neI (ed_var (d := .int c) rfl rfl) (cell H2 (Ex.refl _))))) (by simp)) (fun hc H3 e3 => ?_) (fun hc H3 e3 => ?_)
          · have hc' : ¬ c = get2 M p.1 q.1 := by simpa using hc
            obtain ⟨p', q', z⟩ := pq
            have hm : p' ∈ rows ∧ q' ∈ cols := by
              rcases z with ⟨z1, z2⟩ | ⟨z1, z2⟩
              · exact ⟨List.mem_of_mem_take z1, z2⟩
              · exact ⟨List.mem_of_getElem? z1, List.mem_of_mem_take z2⟩
            exact s_ret ev_c fun H4 e4 => k _ H4 (ex02.trans (e3.trans e4)) (.inl ⟨rfl, p', hm.1, p, hpm, q', hm.2, q, hqm, fun e => hc' ((fc p' q' z).symm.trans e)⟩)
          · have hc' : c = get2 M p.1 q.1 := by simpa using hc
            refine s_asgR (cell H3 e3) fun v4 H4 e4 hv4 => ?_
            cases (show v4 = V.int _ from hv4)
            refine ⟨_, _, _, rfl, ex2.trans (e3.trans e4), .inr ⟨get2 M p.1 q.1, rfl, fun p' q' z => ?_, p, q, (seen_next hp hq p q).mpr (.inr ⟨rfl, rfl⟩)⟩⟩
            rcases (seen_next hp hq p' q').mp z with z | ⟨rfl, rfl⟩
            · rw [← hc']; exact fc p' q' z
            · rfl
      · rintro σ2 H2 ⟨v, o3, o4, rfl, ex2, fv⟩
        rw [List.length_map] at fv
        exact ⟨v, _, _, _, _, rfl, ex.trans ex2, fv.congr fun p q => seen_row p q⟩
    · rintro σ' H' ⟨v, o1, o2, o3, o4, rfl, ex, fv⟩
      rw [List.length_map] at fv
      have exH := e1.trans ex
      rcases fv with ⟨rfl, fn⟩ | ⟨c, rfl, fc, pq⟩
      · refine q_when (b := decide (V.non = V.non)) (et_b (ed_isN (ev_var rfl))) (fun _ H2 e2 => ?_) (fun z => by simp at z)
        refine s_ret ev_c fun H3 e3 => k _ H3 (exH.trans (e2.trans e3)) (.inr ⟨0, rfl, fun p hp q hq => absurd (.inl ⟨?_, hq⟩) (fn p q)⟩)
        rw [List.take_length]; exact hp
      · refine q_when (b := decide (V.int c = V.non)) (et_b (ed_isN (ev_var rfl))) (fun z => by simp at z) (fun _ H2 e2 => ?_)
        refine s_ret (ev_var rfl) fun H3 e3 => k _ H3 (exH.trans (e2.trans e3)) (.inr ⟨c, rfl, fun p hp q hq => fc p q (.inl ⟨?_, hq⟩)⟩)
        rw [List.take_length]; exact hp
theorem range_getD {α : Type} (d : α) : ∀ l : List α, (List.range l.length).map (fun i => l.getD i d) = l := fun l => by
  apply List.ext_getElem
  · simp
  · intro i h1 h2
    simp [List.getElem?_eq_getElem h2]
abbrev K_law_bundle (P : Program) (w : World) (K : PySem.W.Frag) (mg : Str → Option Value) (base : Heap) : Prop := Fk P w K mg base "_law_bundle" ["_law_table_here", "_law_inputs_here", "_law_others", "_law_side"] 2 sp_bundle
theorem sc_law_bundle : FnScope ["_law_table_here", "_law_inputs_here", "_law_others", "_law_side", "_law_bundle_here", "_law_step", "_law_one", "_law_other", "_law_alike", "_law_held_here"] ["_law_table_here", "_law_inputs_here", "_law_others", "_law_side"] (defScope s_law_bundle) := ⟨rfl, rfl, rfl, by decide +kernel, rfl, by decide +kernel, by decide +kernel⟩
theorem ok_law_bundle {f : Addr} {fd : FuncData} (F : FnP K "_law_bundle" "_law_bundle" s_law_bundle f fd) (T : Txt mg) (c_law_answer : K_law_answer P w K mg base) : FnOk P w K mg base CX0 2 f fd ["_law_table_here", "_law_inputs_here", "_law_others", "_law_side"] (sp_bundle) := by
  refine FunD.ok F sc_law_bundle (fun vs H Q E h => ?_) (fun cdv A outer s H vs Q E hr h => ?_)
  · obtain ⟨Z, M, l, o, side, hd, _⟩ := h
    exact hd.length
  · obtain ⟨Z, M, l, o, side, hd, sh, s2, lne, ll, hlx, hox, k⟩ := h
    obtain ⟨v1, v2, v3, v4, rfl, h1, h2, h3, h4⟩ := datL4 hd
    obtain ⟨a, us, rfl, ha, hus⟩ := h2
    obtain ⟨b, ws, rfl, hb, hws⟩ := h3
    refine ⟨_, PSs.nox (pss_cons (psv 4 sc_law_bundle.nd (pe_lst (pa_cons (pe_ix (k_ixL (K := K)) (pv 1) pe_int (fun _ _ => rfl)) pa_nil)))
    (pss_cons (ps_for PassesOwn.never (by rfl) (pi_range1 (by rfl) T.range (pa_cons (pe_callB (k_len (K := K)) (by rfl) T.len bt_len (pa_cons (pv 1) pa_nil)) pa_nil)) (pgv 5 sc_law_bundle.nd)
    (pss_one (ps_for PassesOwn.never (by rfl) (k_pL (K := K) (pv 1)) (pgv 6 sc_law_bundle.nd)
    (pss_one (ps_for PassesOwn.never (by rfl) (k_pL (K := K) (pv 2)) (pgv 7 sc_law_bundle.nd)
    (pss_one (ps_if (pt_cmpR (k_notIn (K := K)) (pv 6) (pv 4) (by rfl))
    (pss_cons (ps_setLc (i := 8) (own := [("_law_held_here", 9)]) (by rfl) sc_law_bundle.nd rfl rfl (sw_true rfl rfl rfl (by decide +kernel)) (k_pL (K := K) (pv 4)) (blkOk_by (by kernel_rfl)) (fun _ _ _ _ _ => (pgv 9 sc_law_bundle.nd)) (fun _ _ _ _ _ => pts_nil) (fun _ _ _ _ _ => (pe_cmpR op_eq (pe_callF c_law_answer hr (by first | decide | omega) (pa_cons (pv 0) (pa_cons (pv 3) (pa_cons (pv 9) (pa_cons (pv 7) pa_nil))))) (pe_callF c_law_answer hr (by first | decide | omega) (pa_cons (pv 0) (pa_cons (pv 3) (pa_cons (pv 6) (pa_cons (pv 7) pa_nil))))) (nomark _))))
    (pss_one (ps_if (pt_cmpR (k_in (K := K)) pe_bl (pv 8) (by rfl))
    (pss_one (ps_expr (k_append (K := K) (pv 4) (pa_cons (pv 6) pa_nil))))
    pss_nil)))
    pss_nil)))))))
    (pss_one (ps_ret (pv 4))))), ?_⟩
    obtain ⟨x0, hx0⟩ : ∃ x, l[0]? = some x := by
      cases l with
      | nil => exact absurd rfl lne
      | cons x _ => exact ⟨x, rfl⟩
    refine q_asgN (ds := natsD [x0]) (en_lst (eda_cons (ed_ixL (ds := natsD l) (j := 0) (ed_var rfl (Dat.lst ha hus)) ed_ci rfl (by rw [List.getElem?_map, hx0]; rfl)) eda_nil) (by simp)) fun c vs H1 c0 e1 hc hvs => ?_
    have nac : a ≠ c := fun z => by rw [z] at ha; rw [ha] at c0; cases c0
    have nbc : b ≠ c := fun z => by rw [z] at hb; rw [hb] at c0; cases c0
    have evs := nats_of hvs
    subst evs
    let INV : L2.St → Hp → Prop := fun σ' H' => ∃ (bs : List Nat) (o1 o2 o3 o4 : Option V), σ' = [some v1, some (.ref a), some (.ref b), some v4, some (.ref c), o1, o2, o3, o4, none] ∧ Ex H H' ∧ H' c = some (.lst (natsV bs)) ∧ bs ≠ [] ∧ bs.Nodup ∧ ∀ x ∈ bs, x ∈ l
    have hm0 : x0 ∈ l := List.mem_of_getElem? hx0
    refine q_forR (n := l.length) (ed_is (ed_lenL (ds := natsD l) (ed_var rfl ((Dat.lst ha hus).ex e1))) (by simp)) (by omega) (fun _ => INV) (fun H2 e2 => ⟨[x0], none, none, none, none, rfl, e1.trans e2, e2 _ _ hc, by simp, by simp, fun x hx => by rw [List.mem_singleton.mp hx]; exact hm0⟩) ?_ ?_
    · rintro i σ' H' hi ⟨bs, o1, o2, o3, o4, rfl, ex, hc', bne, bnd, bsub⟩
      refine s_forA (ds := natsD l) (ev_var rfl) (ex _ _ ha) (hus.ex ex) (natsD_T _) (fun _ σ2 H2 => INV σ2 H2 ∧ TE H' H2) (fun H2 e2 => ⟨⟨bs, _, _, _, _, rfl, ex.trans e2, e2 _ _ hc', bne, bnd, bsub⟩, TE.ex e2⟩) (fun j σ2 H2 ⟨⟨bs, _, _, _, _, _, ex2, _⟩, te⟩ => ⟨te, (ex2 _ _ ha).trans (ex _ _ ha).symm⟩) ?_ (fun σ2 H2 p => p.1)
      rintro j d v σ2 H2 hj ⟨⟨bs, p1, p2, p3, p4, rfl, ex2, hc2, bne, bnd, bsub⟩, te2⟩ hdv
      rw [List.getElem?_map] at hj
      obtain ⟨x, hx, rfl⟩ := Option.map_eq_some_iff.mp hj
      cases (show v = V.int (x : Int) from hdv)
      have hxm : x ∈ l := List.mem_of_getElem? hx
      refine s_forA (ds := natsD o) (ev_var rfl) (ex2 _ _ hb) (hws.ex ex2) (natsD_T _) (fun _ σ3 H3 => (∃ (bs : List Nat) (o3 o4 : Option V), σ3 = [some v1, some (.ref a), some (.ref b), some v4, some (.ref c), p1, some (.int (x : Int)), o3, o4, none] ∧ Ex H H3 ∧ H3 c = some (.lst (natsV bs)) ∧ bs ≠ [] ∧ bs.Nodup ∧ ∀ x ∈ bs, x ∈ l) ∧ TE H2 H3) (fun H3 e3 => ⟨⟨bs, _, _, rfl, ex2.trans e3, e3 _ _ hc2, bne, bnd, bsub⟩, TE.ex e3⟩) (fun j σ3 H3 ⟨⟨bs, _, _, _, ex3, _⟩, te⟩ => ⟨te, (ex3 _ _ hb).trans (ex2 _ _ hb).symm⟩) ?_
        (fun σ3 H3 ⟨⟨bs, o3, o4, e, r⟩, te⟩ => ⟨⟨bs, _, _, _, _, e, r⟩, te2.trans te⟩)
      rintro j' d v σ3 H3 hj' ⟨⟨bs, o3, o4, rfl, ex3, hc3, bne, bnd, bsub⟩, te3⟩ hdv
      rw [List.getElem?_map] at hj'
      obtain ⟨y, hy, rfl⟩ := Option.map_eq_some_iff.mp hj'
      cases (show v = V.int (y : Int) from hdv)
      have hym : y ∈ o := List.mem_of_getElem? hy
      have blen : bs.length ≤ l.length := len_of_sub bnd bsub
      refine s_when (b := !decide (x ∈ bs)) (et_b (ed_notInN (l := bs) (ed_var (d := .int (x : Int)) rfl rfl) (ed_var rfl (Dat.lst hc3 dat_nats)))) (fun hb H4 e4 => ?_) (fun hb H4 e4 => ⟨⟨bs, _, _, rfl, ex3.trans e4, e4 _ _ hc3, bne, bnd, bsub⟩, te3.trans (TE.ex e4)⟩)
      have hnx : x ∉ bs := by simpa using hb
      have ex4 := ex3.trans e4
      let bb : List Bool := (List.range bs.length).map fun i => decide (ans M side (bs.getD i 0) y = ans M side x y)
      have an : ∀ (σ' : L2.St) (H5 : Hp) (m : Nat) (t : L2.TE), Ex H4 H5 → m ∈ l → σ'[0]? = some (some v1) → σ'[3]? = some (some v4) → σ'[7]? = some (some (.int (y : Int))) → EvD t σ' H5 (.int (m : Int)) → EvD (tCall sp_ans [] E0 (tCons (tVar 0) (tCons (tVar 3) (tCons t (tCons (tVar 7) tNil))))) σ' H5 (.int (ans M side m y)) := fun σ' H5 m t e5 hm g0 g3 g7 gt =>
        ed_callP (AnsA.mk Z M side m y) (eda_cons (ed_var g0 (h1.ex (ex4.trans e5))) (eda_cons (ed_var g3 (h4.ex (ex4.trans e5))) (eda_cons gt (eda_cons (ed_var (d := .int (y : Int)) g7 rfl) eda_nil)))) ⟨sh, s2, hlx m hm, hox y hym⟩
      refine q_asgN (ds := bb.map D.bl) (EvN.is (er_lcL (f := fun i => D.bl (decide (ans M side (bs.getD i 0) y = ans M side x y))) (ds := natsD bs) (ed_var rfl (Dat.lst (e4 _ _ hc3) dat_nats)) (by rw [List.length_map]; omega) (fun _ => rfl) (fun _ => rfl) (fun i d v H5 e5 hi hdv => ?_)) (by rw [List.length_map, List.map_map]; rfl)) fun q qs H5 q0 e5 hq hqs => ?_
      · rw [List.getElem?_map] at hi
        obtain ⟨z, hz, rfl⟩ := Option.map_eq_some_iff.mp hi
        cases (show v = V.int (z : Int) from hdv)
        have ez : bs.getD i 0 = z := by rw [List.getD_eq_getElem?_getD, hz]; rfl
        show EvD _ _ _ (D.bl (decide (ans M side (bs.getD i 0) y = ans M side x y)))
        rw [ez]
        exact ed_eqI (an _ H5 z _ e5 (bsub z (List.mem_of_getElem? hz)) rfl rfl rfl (ed_var (d := .int (z : Int)) rfl rfl)) (an _ H5 x _ e5 hxm rfl rfl rfl (ed_var (d := .int (x : Int)) rfl rfl))
      · have e45 := e4.trans e5
        refine s_when (et_b (ed_inB (b := true) (bs := bb) ed_cb (ed_var rfl (Dat.lst hq hqs)))) (fun _ H6 e6 => ?_) (fun _ H6 e6 => ⟨⟨bs, _, _, rfl, ex3.trans (e45.trans e6), (e45.trans e6) _ _ hc3, bne, bnd, bsub⟩, te3.trans (TE.ex (e45.trans e6))⟩)
        have e46 := e45.trans e6
        refine s_app (v := .int (x : Int)) (e46 _ _ hc3) (ev_var rfl) (ev_var rfl) (by rw [List.length_map]; omega) fun H7 e7 => ⟨⟨bs ++ [x], _, _, rfl, Ex.mut (ex3.trans (e46.trans e7)) c0, ?_, by simp, ?_, fun z hz => ?_⟩, (te3.trans (TE.ex (e46.trans e7))).trans (TE.upd (e7 _ _ (e46 _ _ hc3)))⟩
        · rw [upd_same]
          show some (HO.lst _) = some (HO.lst (List.map _ _))
          rw [List.map_append]
          rfl
        · rw [List.nodup_append]
          exact ⟨bnd, by simp, fun u hu v hv => by
            rw [List.mem_singleton.mp hv]
            intro e
            exact hnx (e ▸ hu)⟩
        · rcases List.mem_append.mp hz with hz | hz
          · exact bsub z hz
          · rw [List.mem_singleton.mp hz]; exact hxm
    · rintro σ' H' ⟨bs, o1, o2, o3, o4, rfl, ex, hc', bne, bnd, bsub⟩
      exact s_ret (ev_var rfl) fun H3 e3 => k c H3 bs c0 (ex.trans e3) (e3 _ _ hc') bne bnd bsub
end
end JH
set_option Elab.async false
set_option maxRecDepth 100000
set_option maxHeartbeats 4000000
/-! the law's own search: counts, what is learned from two of them -/
namespace JH
open PySem PySem.Spec PyProof.Rows L2 Evl
/-- all but lists is kept -/
def NE (H H' : Hp) : Prop := ∀ a o, H a = some o → (∀ xs, o ≠ .lst xs) → H' a = some o
theorem NE.of {H H' : Hp} (e : Ex H H') : NE H H' := fun a o h _ => e a o h
theorem NE.trans {H H1 H2 : Hp} (a : NE H H1) (b : NE H1 H2) : NE H H2 := fun x o h n => b x o (a x o h n) n
theorem NE.upd {H : Hp} {l : Addr} {xs : List V} {o : HO} (h : H l = some (.lst xs)) : NE H (L2.upd H l o) := fun a u e n => by
  rw [upd_ne (fun z => by rw [z, h] at e; cases e; exact n _ rfl)]
  exact e
def CntAt (H : Hp) (a : Addr) (rows : List (List Int)) : Prop := ∃ kvs, H a = some (.dT kvs) ∧ CntOf rows kvs
theorem CntAt.ne {H H' : Hp} {a : Addr} {rows : List (List Int)} (e : NE H H') (h : CntAt H a rows) : CntAt H' a rows := by
  obtain ⟨kvs, h1, h2⟩ := h
  exact ⟨kvs, e a _ h1 (fun xs z => by cases z), h2⟩
theorem CntAt.ex {H H' : Hp} {a : Addr} {rows : List (List Int)} (e : Ex H H') (h : CntAt H a rows) : CntAt H' a rows := h.ne (NE.of e)
theorem srt_congr {l m : List (List Int)} (h : ∀ b, b ∈ l ↔ b ∈ m) : srt l = srt m := up_unique (up_srt l) (up_srt m) fun b => by rw [mem_srt, mem_srt, h]
theorem row_at {H : Hp} {b : List Int} {v : V} (h : Dat H (bitsD b) v) : ∃ p, v = .ref p ∧ H p = some (.tup ((kk b).map kV)) := by
  obtain ⟨p, vs, rfl, h1, h2⟩ := h
  have e := DatL.of_ints h2
  subst e
  exact ⟨p, rfl, by rw [kk_V]; exact h1⟩
/-- a new list of n things, each told by R -/
def EvNR (te : L2.TE) (σ : L2.St) (H : Hp) (n : Nat) (R : Nat → Hp → V → Prop) : Prop := ∀ H1, Ex H H1 → ∀ Q : VK, (∀ p ws H2, H1 p = none → Ex H1 H2 → H2 p = some (.lst ws) → ws.length = n → (∀ i v, ws[i]? = some v → R i H2 v) → Q (.ref p) H2) → te σ H1 Q
section
variable {K : PySem.W.Frag} {σ : L2.St} {H H' : Hp} {ta tb tl te ty : L2.TE} {DD : Ends} {tu tz : TS} {g : TG} {ds : List D} {vs : List Nat} {j : Nat}
theorem ed_get {i : Nat} {a : Addr} {rows : List (List Int)} {b : List Int} (hv : σ[i]? = some (some (.ref a))) (h : CntAt H a rows) (hb : EvD ty σ H (bitsD b)) : EvD (tDGet2 (tVar i) ty (tC (.int 0))) σ H (.int ((rows.count b : Nat) : Int)) := fun H1 e1 Q q => by
  obtain ⟨kvs, h1, h2⟩ := h
  refine ⟨_, hv, a, rfl, .inr ⟨kvs, .inl (e1 _ _ h1)⟩, hb H1 e1 _ fun v H2 e2 dv => ?_⟩
  obtain ⟨p, rfl, hp⟩ := row_at dv
  refine ⟨valV kvs (kk b), DGet.t (e2 _ _ (e1 _ _ h1)) hp, ?_⟩
  rw [h2.get]
  exact q _ H2 e2 rfl
theorem er_lcV {R : Nat → Hp → V → Prop} {n : Nat} (hR : ∀ i H H' v, NE H H' → R i H v → R i H' v) (h : EvD tl σ H (.int n)) (hn : n ≤ 1000) (hw : ∀ x, wipe ((wipe σ vs).set j (some x)) vs = wipe σ vs)
    (he : ∀ i H1, Ex H H1 → i < n → EvR te ((wipe σ vs).set j (some (.int (i : Int)))) H1 (R i)) : EvNR (tLc (iRng1 (tCons tl tNil)) (gName j) tYes te vs) σ H n R := fun H0 e0 Q q =>
  ev_i h H0 e0 _ fun H1 e1 => ⟨n, rfl, by omega, by omega, fun Dl hD => by
    refine lc_range (lo := 0) (n := (n : Int).toNat) (fun i H' => Ex H1 H' ∧ ∃ ws, H' Dl = some (.lst ws) ∧ ws.length = i ∧ ∀ k v, ws[k]? = some v → R k H' v) ⟨Ex.new hD, [], upd_same, rfl, fun k v z => by simp at z⟩ (fun i H' hi p => ?_) (fun H' p => ?_)
    · have e00 : (0 : Int) + (i : Int) = (i : Int) := Int.zero_add _
      have hi' : i < n := by omega
      rw [e00]
      obtain ⟨p1, ws, p2, p3, p4⟩ := p
      refine ⟨hw _, ?_⟩
      simp only [tYes, ↓reduceIte]
      refine he i H' ((e0.trans e1).trans p1) hi' H' (Ex.refl _) _ fun y H4 e4 ry => ⟨ws, e4 _ _ p2, sz_lt (by omega), Ex.mut (p1.trans e4) hD, ws ++ [y], upd_same, by rw [List.length_append, p3]; rfl, fun k v hk => ?_⟩
      have ne : NE H4 (upd H4 Dl (.lst (ws ++ [y]))) := NE.upd (e4 _ _ p2)
      by_cases hlt : k < ws.length
      · rw [List.getElem?_append_left hlt] at hk
        exact hR _ _ _ _ ne (hR _ _ _ _ (NE.of e4) (p4 k v hk))
      · rw [List.getElem?_append_right (by omega)] at hk
        have hk0 : k - ws.length = 0 := by
          have := (List.getElem?_eq_some_iff.mp hk).1
          simp at this
          omega
        rw [hk0] at hk
        cases hk
        have : k = i := by omega
        subst this
        exact hR _ _ _ _ ne ry
    · obtain ⟨p1, ws, p2, p3, p4⟩ := p
      exact q Dl ws H' (fresh_back e1 hD) (e1.trans p1) p2 (by simpa using p3) p4⟩
theorem en_cat {a b : List D} (ha : EvD ta σ H (.lst a)) (hb : EvD tb σ H (.lst b)) (hl : a.length + b.length ≤ 100000) : EvN (tOp rCat ta tb) σ H (a ++ b) := fun H1 e1 Q q =>
  ha H1 e1 _ fun v H2 e2 ⟨p, us, ev, hv, hd⟩ => hb H2 (e1.trans e2) _ fun u H3 e3 ⟨p', ws, eu, hu, hd'⟩ =>
    ⟨p, p', us, ws, ev, eu, e3 _ _ hv, hu, sz_of (by rw [hd.length, hd'.length]; exact hl), fun r hr => q r _ _ (fresh_back (e2.trans e3) hr) ((e2.trans e3).trans (Ex.new hr)) upd_same (((hd.ex e3).append hd').ex (Ex.new hr))⟩
theorem q_asgNR {n i : Nat} {R : Nat → Hp → V → Prop} (h : EvNR te σ H n R) (k : ∀ p ws H1, H p = none → Ex H H1 → H1 p = some (.lst ws) → ws.length = n → (∀ i v, ws[i]? = some v → R i H1 v) → tz DD (σ.set i (some (.ref p))) H1) : tSeq (tAsg te (gName i)) tz DD σ H :=
  h H (Ex.refl H) _ fun p ws H1 hp e h1 h2 h3 => k p ws H1 hp e h1 h2 h3
end
theorem q_newT {σ : L2.St} {H : Hp} {DD : Ends} {tz : TS} {i : Nat} (k : ∀ p H1, H p = none → Ex H H1 → H1 p = some (.dT []) → tz DD (σ.set i (some (.ref p))) H1) : tSeq (tAsg tDNewT (gName i)) tz DD σ H := fun p hp => k p _ hp (Ex.new hp) upd_same
structure CntA where
  Z : Sz
  t : Tr
  side : Nat
  own : Nat
  coin : Nat
  other : Nat
structure CntA.Ok (a : CntA) : Prop where
  z : a.Z.Ok
  wf : a.t.WF a.Z
  dep : a.t.dep ≤ 8
  s2 : a.side < 2
  ho : a.own < a.Z.sz a.side
  hc : a.coin < a.Z.cn a.side
  ht : a.other < a.Z.sz (1 - a.side)
def CntA.rows (a : CntA) : List (List Int) := rowsOf a.Z a.t a.side a.own a.coin a.other
def sp_counts : Sp := fun vs H Q _ => ∃ a : CntA, DatL H [talkD a.Z a.t, .int a.side, .int a.own, .int a.coin, .int a.other] vs ∧ a.Ok ∧ ∀ p H', H p = none → Ex H H' → CntAt H' p a.rows → Q (.ref p) H'
structure LrnA where
  side : Nat
  own : Nat
  coin : Nat
  y : Nat
  z : Nat
  r1 : List (List Int)
  r2 : List (List Int)
def LrnA.res (a : LrnA) : List D := (unl a.r1 a.r2).map (learnD a.side a.own a.coin a.y a.z a.r1 a.r2)
def sp_learned : Sp := fun vs H Q _ => ∃ (a : LrnA) (v1 v5 : V) (pa pb : Addr), vs = [v1, .int a.side, .int a.own, .int a.coin, v5, .ref pa, .ref pb] ∧ Dat H (pairD a.y a.z) v5 ∧ CntAt H pa a.r1 ∧ CntAt H pb a.r2 ∧ a.r1.length ≤ 3 ∧ a.r2.length ≤ 3 ∧
  ∀ l ws H', H l = none → Ex H H' → H' l = some (.lst ws) → DatL H' a.res ws → Q (.ref l) H'
theorem pairD_picks (x y side : Nat) (h : side < 2) : [pairD x y, pairD y x][side]? = some (pairD (pick side x y) (pick side y x)) := by
  rcases (by omega : side = 0 ∨ side = 1) with e | e
  · subst e; rfl
  · subst e; rfl
theorem talk_cn {Z : Sz} {t : Tr} {side : Nat} (h : side < 2) : [D.str "talk", .int Z.c0, .int Z.c1, t.d][2 - side]? = some (.int (Z.cn (1 - side))) := by
  rcases (by omega : side = 0 ∨ side = 1) with e | e
  · subst e; rfl
  · subst e; rfl
section
variable {P : Program} {w : World} {K : PySem.W.Frag} {mg : Str → Option Value} {base : Heap} {C : Addr}
abbrev K_law_counts (P : Program) (w : World) (K : PySem.W.Frag) (mg : Str → Option Value) (base : Heap) : Prop := Fk P w K mg base "_law_counts" ["_law_talk", "_law_side", "_law_mine", "_law_coin", "_law_other"] 2 sp_counts
theorem sc_law_counts : FnScope ["_law_talk", "_law_side", "_law_mine", "_law_coin", "_law_other", "_law_found", "_law_theirs", "_law_inputs_here", "_law_coins", "_law_bits_here"] ["_law_talk", "_law_side", "_law_mine", "_law_coin", "_law_other"] (defScope s_law_counts) := ⟨rfl, rfl, rfl, by decide +kernel, rfl, by decide +kernel, by decide +kernel⟩
theorem ok_law_counts {f : Addr} {fd : FuncData} (F : FnP K "_law_counts" "_law_counts" s_law_counts f fd) (T : Txt mg) (c_law_held : K_law_held P w K mg base) : FnOk P w K mg base CX0 2 f fd ["_law_talk", "_law_side", "_law_mine", "_law_coin", "_law_other"] (sp_counts) := by
  refine FunD.ok F sc_law_counts (fun vs H Q E h => ?_) (fun cdv A outer s H vs Q E hr h => ?_)
  · obtain ⟨a, hd, _⟩ := h
    exact hd.length
  · obtain ⟨⟨Z, t, side, own, coin, other⟩, hd, ⟨zok, wf, dep, s2, ho, hc, ht⟩, k⟩ := h
    simp only at zok wf dep s2 ho hc ht
    obtain ⟨v1, v2, v3, v4, v5, rfl, h1, h2, h3, h4, h5⟩ := datL5 hd
    have h1' : Dat H (.tup [.str "talk", .int Z.c0, .int Z.c1, t.d]) v1 := h1
    cases (show v2 = V.int (side : Int) from h2)
    cases (show v3 = V.int (own : Int) from h3)
    cases (show v4 = V.int (coin : Int) from h4)
    cases (show v5 = V.int (other : Int) from h5)
    have hn3 := cn_le3 zok (1 - side)
    refine ⟨_, PSs.nox (pss_cons (psv 5 sc_law_counts.nd pe_dnewT)
    (pss_cons (ps_for PassesOwn.never (by rfl) (pi_range1 (by rfl) T.range (pa_cons (pe_ix (k_ixT (K := K)) (pv 0) (pe_op op_sub pe_int (pv 1)) (fun _ _ => rfl)) pa_nil)) (pgv 6 sc_law_counts.nd)
    (pss_cons (psv 7 sc_law_counts.nd (pe_ix (k_ixL (K := K)) (pe_lst (pa_cons (pe_tup (pa_cons (pv 2) (pa_cons (pv 4) pa_nil))) (pa_cons (pe_tup (pa_cons (pv 4) (pa_cons (pv 2) pa_nil))) pa_nil))) (pv 1) (fun _ _ => rfl)))
    (pss_cons (psv 8 sc_law_counts.nd (pe_ix (k_ixL (K := K)) (pe_lst (pa_cons (pe_tup (pa_cons (pv 3) (pa_cons (pv 6) pa_nil))) (pa_cons (pe_tup (pa_cons (pv 6) (pa_cons (pv 3) pa_nil))) pa_nil))) (pv 1) (fun _ _ => rfl)))
    (pss_cons (psv 9 sc_law_counts.nd (pe_ix (k_ixT (K := K)) (pe_callF c_law_held hr (by first | decide | omega) (pa_cons (pv 0) (pa_cons (pv 7) (pa_cons (pv 8) pa_nil)))) pe_int (fun _ _ => rfl)))
    (pss_one (ps_dput (hu_of hr) (pv 5) (pv 9) (pe_op op_add (pe_dget2 (hu_of hr) (pv 5) (pv 9) pe_int ⟨by rfl, by rfl, by rfl, by rfl⟩) pe_int) (by rfl)))))))
    (pss_one (ps_ret (pv 5))))), ?_⟩
    let f : Nat → List Int := fun k => (t.run (pick side own other) (pick side other own) (pick side coin k) (pick side k coin)).1
    refine q_newT fun p H1 p0 e1 hp1 => ?_
    refine q_forR (n := Z.cn (1 - side)) (ed_ixT (j := 2 - side) (ed_var rfl (h1'.ex e1)) (ed_I0 (g := fun i j => i - j) ed_ci (ed_var (d := .int side) rfl rfl)) (by omega) (talk_cn s2)) (by omega) (fun i σ' H' => ∃ (kvs : List (List Key × V)) (o1 o2 o3 o4 : Option V), σ' = [some v1, some (.int side), some (.int own), some (.int coin), some (.int other), some (.ref p), o1, o2, o3, o4] ∧ Ex H H' ∧ H' p = some (.dT kvs) ∧ CntOf ((List.range i).map f) kvs)
      (fun H2 e2 => ⟨[], none, none, none, none, rfl, e1.trans e2, e2 _ _ hp1, CntOf.nil⟩) ?_ ?_
    · rintro i σ' H' hi ⟨kvs, o1, o2, o3, o4, rfl, ex, hp, cnt⟩
      refine q_asgR (ed_ixL (ds := [pairD own other, pairD other own]) (i := (side : Int)) (j := side) (ed_lst (eda_cons (ed_tup (eda_cons (ed_var (d := .int own) rfl rfl) (eda_cons (ed_var (d := .int other) rfl rfl) eda_nil)) (by simp)) (eda_cons (ed_tup (eda_cons (ed_var (d := .int other) rfl rfl) (eda_cons (ed_var (d := .int own) rfl rfl) eda_nil)) (by simp)) eda_nil)) (by simp)) (ed_var (d := .int side) rfl rfl) rfl (pairD_picks own other side s2)) fun w7 H2 e2 hw7 => ?_
      refine q_asgR (ed_ixL (ds := [pairD coin i, pairD i coin]) (i := (side : Int)) (j := side) (ed_lst (eda_cons (ed_tup (eda_cons (ed_var (d := .int coin) rfl rfl) (eda_cons (ed_var (d := .int i) rfl rfl) eda_nil)) (by simp)) (eda_cons (ed_tup (eda_cons (ed_var (d := .int i) rfl rfl) (eda_cons (ed_var (d := .int coin) rfl rfl) eda_nil)) (by simp)) eda_nil)) (by simp)) (ed_var (d := .int side) rfl rfl) rfl (pairD_picks coin i side s2)) fun w8 H3 e3 hw8 => ?_
      have ex3 := ex.trans (e2.trans e3)
      have hx := pick_x s2 ho ht
      have hcc := pick_c s2 hc hi
      refine q_asgR (ed_ixT (K := K) (ds := [bitsD (f i), .tup [.int (t.run (pick side own other) (pick side other own) (pick side coin i) (pick side i coin)).2.1, .int (t.run (pick side own other) (pick side other own) (pick side coin i) (pick side i coin)).2.2]]) (d := bitsD (f i)) (j := 0) (ed_callP (HoldA.mk Z t (pick side own other) (pick side other own) (pick side coin i) (pick side i coin)) (eda_cons (ed_var rfl (h1.ex ex3)) (eda_cons (ed_var rfl (hw7.ex e3)) (eda_cons (ed_var rfl hw8) eda_nil))) ⟨zok, wf, by show t.dep ≤ 100; omega, hx.1, hx.2, hcc.1, hcc.2⟩) ed_ci rfl rfl) fun w9 H4 e4 hw9 => ?_
      obtain ⟨b, rfl, hb⟩ := row_at hw9
      have hp4 := e4 _ _ (e3 _ _ (e2 _ _ hp))
      have kl := cnt.len
      rw [List.length_map, List.length_range] at kl
      refine ⟨_, rfl, p, rfl, .inr ⟨kvs, .inl hp4⟩, _, rfl, valV kvs (kk (f i)), DGet.t hp4 hb, _, 1, cnt.get (f i), rfl, _, rfl, _, rfl, p, _, rfl, DPut.t hp4 hb (sz_lt (by omega)), _, _, _, _, _, rfl, Ex.mut (ex3.trans e4) p0, upd_same, ?_⟩
      rw [range_snoc]
      exact cnt.put (f i)
    · rintro σ' H' ⟨kvs, o1, o2, o3, o4, rfl, ex, hp, cnt⟩
      exact s_ret (ev_var rfl) fun H3 e3 => k p H3 p0 (ex.trans e3) ⟨kvs, e3 _ _ hp, cnt⟩
end
end JH
set_option Elab.async false
set_option maxRecDepth 100000
set_option maxHeartbeats 4000000
/-! the law's own search: what is learned -/
namespace JH
open PySem PySem.Spec PyProof.Rows L2 Evl
theorem exb_unlock {H H' : Hp} {a l : Addr} {od : Obj} {u : HO} (ha : H a = some u) (e : ExB l (L2.upd H a (.frz od u)) H') : ExB l H (L2.upd H' a u) := fun x o n h => by
  by_cases hx : x = a
  · subst hx
    rw [ha] at h
    rw [upd_same]
    exact h
  · rw [upd_ne hx]
    exact e x o n (by rw [upd_ne hx]; exact h)
theorem te_unlock {H' : Hp} {a : Addr} {od : Obj} {u : HO} (ha : H' a = some (.frz od u)) : TE H' (L2.upd H' a u) := fun x xs e => by
  by_cases hx : x = a
  · subst hx
    rw [ha] at e
    cases e
  · rw [upd_ne hx]; exact e
theorem ExB.toTE {H H' : Hp} {p : Addr} {xs : List V} (h : H p = some (.lst xs)) (e : ExB p H H') : TE H H' := fun a ys q => e a _ (fun z => by rw [z, h] at q; cases q) q
section
variable {K : PySem.W.Frag} {σ : L2.St} {H H' : Hp} {ta tb tl te ty : L2.TE} {DD : Ends} {tu tz : TS} {g : TG}
theorem kvs_at {kvs : List (List Key × V)} {ks : List (List Int)} (e : kvs.map (·.1) = ks.map kk) {i : Nat} {k : List Key} {v : V} (h : kvs[i]? = some (k, v)) : ∃ b, ks[i]? = some b ∧ k = kk b := by
  have h1 : (kvs.map (·.1))[i]? = some k := by rw [List.getElem?_map, h]; rfl
  rw [e, List.getElem?_map] at h1
  obtain ⟨b, hb, eb⟩ := Option.map_eq_some_iff.mp h1
  exact ⟨b, hb, eb.symm⟩
theorem dat_key {H : Hp} {q : Addr} {b : List Int} (h : H q = some (.tup ((kk b).map kV))) : Dat H (bitsD b) (.ref q) := by
  rw [kk_V] at h
  exact Dat.tup h (DatL.ints b)
theorem q_lockKeys {i j t : Nat} {a : Addr} {rows : List (List Int)} (hv : σ[i]? = some (some (.ref a))) (h : CntAt H a rows) (hr : rows.length ≤ 1000) (hj : ∀ x, ((wipe σ [j]).set j (some x))[j]? = some (some x)) (hw : ∀ x, wipe ((wipe σ [j]).set j (some x)) [j] = wipe σ [j])
    (k : ∀ p ws ks H1, H p = none → Ex H H1 → H1 p = some (.lst ws) → DatL H1 (rowsD ks) ws → ks.Nodup → (∀ b, b ∈ ks ↔ b ∈ rows) → tz DD (σ.set t (some (.ref p))) H1) : tSeq (tLock (tAsg (tLc (iKeys (tVar i)) (gName j) tYes (tVar j) [j]) (gName t))) tz DD σ H := by
  obtain ⟨kvs, h1, h2⟩ := h
  obtain ⟨ks, e, nd, hm⟩ := h2.keys
  have hkl : kvs.length = ks.length := by have := congrArg List.length e; simpa using this
  refine ⟨a, .dT kvs, h1, trivial, fun od => ⟨_, hv, a, od, rfl, .inr ⟨kvs, upd_same, fun Dl hD => lc_it walk_keysT (fun i H' => ExB Dl (L2.upd H a (.frz od (.dT kvs))) H' ∧ ∃ ws, H' Dl = some (.lst ws) ∧ DatL H' (rowsD (ks.take i)) ws) ?_ ?_ ?_ ?_⟩⟩⟩
  · exact ⟨ExB.of (Ex.new hD), [], upd_same, rfl⟩
  · intro i H' hi ⟨e1, _⟩
    exact e1 a _ (fun z => by rw [← z, upd_same] at hD; cases hD) upd_same
  · rintro n x H1 H' hi ⟨e1, ws, hws, dws⟩ ⟨rfl, k', v', q, hk, rfl, hq⟩
    obtain ⟨b, hb, rfl⟩ := kvs_at e hk
    refine ⟨hw _, ?_⟩
    simp only [tYes, ↓reduceIte]
    have hl2 := h2.len
    refine ⟨_, hj _, ws, hws, sz_lt (by rw [dws.length, List.length_map, List.length_take]; omega), ?_, ws ++ [.ref q], upd_same, ?_⟩
    · exact e1.trans ExB.upd
    · have tk : ks.take (n + 1) = ks.take n ++ [b] := by rw [List.take_add_one, hb]; rfl
      rw [tk, rowsD, List.map_append]
      have te : TE H' (L2.upd H' Dl (.lst (ws ++ [.ref q]))) := TE.upd hws
      exact (dws.te te (rowsD_T _)).snoc ((dat_key hq).te te (bitsD_T b))
  · rintro H' ⟨e1, ws, hws, dws⟩
    have hDa : a ≠ Dl := fun z => by rw [← z, upd_same] at hD; cases hD
    have ha' := e1 a _ hDa upd_same
    refine ⟨ha', ?_⟩
    have hD0 : H Dl = none := by rw [upd_ne (fun z => hDa z.symm)] at hD; exact hD
    have eb := exb_unlock h1 e1
    refine k Dl ws ks _ hD0 (fun x o hx => eb x o (ne_of_none hx hD0) hx) (by rw [upd_ne (fun z => hDa z.symm)]; exact hws) ?_ nd hm
    rw [hkl, List.take_length] at dws
    exact dws.te (te_unlock ha') (rowsD_T _)
/-- over a new list -/
theorem q_forN {ds : List D} (h : EvN tl σ H ds) (hT : D.TL ds = true) (Pv : Hp → Nat → L2.St → Hp → Prop) (h0 : ∀ H1, Ex H H1 → Pv H1 0 σ H1)
    (hk : ∀ H1 a vs i σ' H', H a = none → Ex H H1 → H1 a = some (.lst vs) → Pv H1 i σ' H' → TE H1 H' ∧ H' a = some (.lst vs))
    (hs : ∀ H1 (i : Nat) d v σ' H', Ex H H1 → ds[i]? = some d → Pv H1 i σ' H' → Dat H' d v → g v σ' H' fun σ2 H2 => tu { DD with nx := Pv H1 (i + 1), ct := Pv H1 (i + 1), bk := tz DD } σ2 H2)
    (hd : ∀ H1 σ' H', Ex H H1 → Pv H1 ds.length σ' H' → tz DD σ' H') : tSeq (tFor (iList K tl) g tu) tz DD σ H :=
  h H (Ex.refl H) _ fun a us H1 a0 e hv hdd => by
    refine ⟨a, rfl, ⟨us, SqL.of hv⟩, for_list (D := { DD with nx := tz DD }) (xs := us) (Pv H1) (h0 H1 e) (fun i σ' H' _ p => SqL.of (hk H1 a us i σ' H' a0 e hv p).2) (fun i x σ' H' hi p => ?_) (fun σ' H' p => hd H1 σ' H' e (by rw [← hdd.length]; exact p))⟩
    obtain ⟨d, h1, h2⟩ := hdd.getV hi
    exact hs H1 i d x σ' H' e h1 p (h2.te (hk H1 a us i σ' H' a0 e hv p).1 (TL_get hT h1))
theorem ed_notinT {i : Nat} {a : Addr} {kvs : List (List Key × V)} {b : List Int} (hv : σ[i]? = some (some (.ref a))) (h : Rd H a (.dT kvs)) (hb : EvD ty σ H (bitsD b)) : EvD (tDNotIn ty (tVar i)) σ H (.bl (!(valV kvs (kk b)).isSome)) := fun H1 e1 Q q =>
  hb H1 e1 _ fun v H2 e2 dv => by
    obtain ⟨p, rfl, hp⟩ := row_at dv
    have h2 : Rd H2 a (.dT kvs) := by
      rcases h with h | ⟨o, h⟩
      · exact .inl ((e1.trans e2) _ _ h)
      · exact .inr ⟨o, (e1.trans e2) _ _ h⟩
    exact ⟨_, hv, a, valV kvs (kk b), rfl, .inr ⟨kvs, kk b, p, h2, rfl, hp, rfl⟩, q _ H2 e2 rfl⟩
end
section
variable {P : Program} {w : World} {K : PySem.W.Frag} {mg : Str → Option Value} {base : Heap} {C : Addr}
abbrev K_law_learned (P : Program) (w : World) (K : PySem.W.Frag) (mg : Str → Option Value) (base : Heap) : Prop := Fk P w K mg base "_law_learned" ["_law_talk", "_law_side", "_law_mine", "_law_coin", "_law_others", "_law_first", "_law_second"] 2 sp_learned
theorem sc_law_learned : FnScope ["_law_talk", "_law_side", "_law_mine", "_law_coin", "_law_others", "_law_first", "_law_second", "_law_rows", "_law_bits_here", "_law_found", "_law_counts_here"] ["_law_talk", "_law_side", "_law_mine", "_law_coin", "_law_others", "_law_first", "_law_second"] (defScope s_law_learned) := ⟨rfl, rfl, rfl, by decide +kernel, rfl, by decide +kernel, by decide +kernel⟩
theorem ok_law_learned {f : Addr} {fd : FuncData} (F : FnP K "_law_learned" "_law_learned" s_law_learned f fd) (T : Txt mg) (c_law_rising : K_law_rising P w K mg base) : FnOk P w K mg base CX0 2 f fd ["_law_talk", "_law_side", "_law_mine", "_law_coin", "_law_others", "_law_first", "_law_second"] (sp_learned) := by
  refine FunD.ok F sc_law_learned (fun vs H Q E h => ?_) (fun cdv A outer s H vs Q E hr h => ?_)
  · obtain ⟨a, v1, v5, pa, pb, rfl, _⟩ := h
    rfl
  · obtain ⟨⟨side, own, coin, y, z, r1, r2⟩, v1, v5, pa, pb, rfl, h5, ca, cb, l1, l2, k⟩ := h
    simp only at h5 ca cb l1 l2
    refine ⟨_, PSs.nox (pss_cons (ps_lock (ps_setLc (i := 7) (own := [("_law_bits_here", 8)]) (by rfl) sc_law_learned.nd rfl rfl (sw_true rfl rfl rfl (by decide +kernel)) (pi_keys (pv 5)) (blkOk_by (by kernel_rfl)) (fun _ _ _ _ _ => (pgv 8 sc_law_learned.nd)) (fun _ _ _ _ _ => pts_nil) (fun _ _ _ _ _ => (pv 8))))
    (pss_cons (ps_lock (ps_for PassesOwn.never (by rfl) (pi_keys (pv 6)) (pgv 8 sc_law_learned.nd)
    (pss_one (ps_if (pt_cmp (pc_dnotin (hu_of hr) (pv 8) (pv 5)) (by rfl))
    (pss_one (ps_expr (k_append (K := K) (pv 7) (pa_cons (pv 8) pa_nil))))
    pss_nil))))
    (pss_cons (psv 9 sc_law_learned.nd (pe_lst pa_nil))
    (pss_cons (ps_for PassesOwn.never (by rfl) (k_pL (K := K) (pe_callF c_law_rising hr (by first | decide | omega) (pa_cons (pv 7) pa_nil))) (pgv 8 sc_law_learned.nd)
    (pss_cons (psv 10 sc_law_learned.nd (pe_tup (pa_cons (pe_dget2 (hu_of hr) (pv 5) (pv 8) pe_int ⟨by rfl, by rfl, by rfl, by rfl⟩) (pa_cons (pe_dget2 (hu_of hr) (pv 6) (pv 8) pe_int ⟨by rfl, by rfl, by rfl, by rfl⟩) pa_nil))))
    (pss_one (ps_if (pt_cmpR op_ne (pe_ix (k_ixT (K := K)) (pv 10) pe_int (fun _ _ => rfl)) (pe_ix (k_ixT (K := K)) (pv 10) pe_int (fun _ _ => rfl)) (nomark _))
    (pss_one (ps_expr (k_append (K := K) (pv 9) (pa_cons (pe_tup (pa_cons pe_str (pa_cons (pv 1) (pa_cons (pv 2) (pa_cons (pv 3) (pa_cons (pv 4) (pa_cons (pv 8) (pa_cons (pv 10) pa_nil)))))))) pa_nil))))
    pss_nil))))
    (pss_one (ps_ret (pv 9))))))), ?_⟩
    refine q_lockKeys rfl ca (by omega) (fun _ => rfl) (fun _ => rfl) fun l ws ks1 H1 l0 e1 hl hws nd1 hm1 => ?_
    obtain ⟨k2, hb2, cnt2⟩ := cb.ex e1
    obtain ⟨ks2, e2, nd2, hm2⟩ := cnt2.keys
    obtain ⟨k1, ha1, cnt1⟩ := ca.ex e1
    have hkl : k2.length = ks2.length := by have := congrArg List.length e2; simpa using this
    have nlb : l ≠ pb := fun z => by rw [z, hb2] at hl; cases hl
    have nla : l ≠ pa := fun z => by rw [z, ha1] at hl; cases hl
    have lk1 : ks1.length ≤ 3 := Nat.le_trans (len_of_sub nd1 fun x hx => (hm1 x).mp hx) l1
    have lk2 : ks2.length ≤ 3 := Nat.le_trans (len_of_sub nd2 fun x hx => (hm2 x).mp hx) l2
    refine ⟨pb, .dT k2, hb2, trivial, fun od => ⟨_, rfl, pb, od, rfl, .inr ⟨k2, upd_same, for_it walk_keysT (fun i σ' H' => ExB l (L2.upd H1 pb (.frz od (.dT k2))) H' ∧ ∃ (ws : List V) (o8 : Option V), σ' = [some v1, some (.int side), some (.int own), some (.int coin), some v5, some (.ref pa), some (.ref pb), some (.ref l), o8, none, none] ∧ H' l = some (.lst ws) ∧ DatL H' (rowsD (ks1 ++ (ks2.take i).filter fun b => decide (b ∉ r1))) ws) ?_ ?_ ?_ ?_⟩⟩⟩
    · refine ⟨ExB.refl _ _, ws, none, rfl, by rw [upd_ne nlb]; exact hl, ?_⟩
      have te : TE H1 (L2.upd H1 pb (.frz od (.dT k2))) := TE.updD hb2
      simpa using hws.te te (rowsD_T _)
    · intro i σ' H' _ ⟨eb, _⟩
      exact eb pb _ (fun z => nlb z.symm) upd_same
    · rintro i x σ' H2 H2' hi ⟨eb, ws, o8, rfl, hl2, hws2⟩ ⟨rfl, k', v', q, hk, rfl, hq⟩
      obtain ⟨b, hbi, rfl⟩ := kvs_at e2 hk
      have tk : ks2.take (i + 1) = ks2.take i ++ [b] := by rw [List.take_add_one, hbi]; rfl
      have rda : Rd H2' pa (.dT k1) := by
        by_cases e : pa = pb
        · rw [e, hb2] at ha1
          cases ha1
          rw [e]
          exact .inr ⟨od, eb pb _ (fun z => nlb z.symm) upd_same⟩
        · exact .inl (eb pa _ (fun z => nla z.symm) (by rw [upd_ne e]; exact ha1))
      have hbd : Dat H2' (bitsD b) (.ref q) := dat_key hq
      refine s_when (b := !(valV k1 (kk b)).isSome) (et_b (ed_notinT rfl rda (ed_var rfl hbd))) (fun hc H3 e3 => ?_) (fun hc H3 e3 => ?_)
      · have hn : b ∉ r1 := fun z => by rw [cnt1.val, if_pos z] at hc; cases hc
        have lws := hws2.length
        rw [List.length_map, List.length_append] at lws
        have lf := List.length_filter_le (fun b => decide (b ∉ r1)) (ks2.take i)
        rw [List.length_take] at lf
        refine s_app (v := .ref q) (e3 _ _ hl2) (ev_var rfl) (ev_var rfl) (by omega) fun H4 e4 => ⟨eb.trans ((ExB.of (e3.trans e4)).trans ExB.upd), ws ++ [.ref q], _, rfl, upd_same, ?_⟩
        have te : TE H4 (L2.upd H4 l (.lst (ws ++ [.ref q]))) := TE.upd (e4 _ _ (e3 _ _ hl2))
        rw [tk, List.filter_append, List.filter_cons_of_pos (by simpa using hn), List.filter_nil, ← List.append_assoc, rowsD, List.map_append]
        exact ((hws2.ex (e3.trans e4)).te te (rowsD_T _)).snoc ((hbd.ex (e3.trans e4)).te te (bitsD_T b))
      · have hn : b ∈ r1 := by
          by_cases z : b ∈ r1
          · exact z
          · rw [cnt1.val, if_neg z] at hc
            cases hc
        refine ⟨eb.trans (ExB.of e3), ws, _, rfl, e3 _ _ hl2, ?_⟩
        rw [tk, List.filter_append, List.filter_cons_of_neg (by simpa using hn), List.filter_nil, List.append_nil]
        exact hws2.ex e3
    · rintro σ' H2 ⟨eb, ws, o8, rfl, hl2, hws2⟩
      have hb3 := eb pb _ (fun z => nlb z.symm) upd_same
      refine ⟨hb3, ?_⟩
      have ebu := exb_unlock hb2 eb
      have exu : Ex H (L2.upd H2 pb (.dT k2)) := ebu.ex e1 l0
      have hl3 : (L2.upd H2 pb (.dT k2)) l = some (.lst ws) := by rw [upd_ne nlb]; exact hl2
      have hws3 := hws2.te (te_unlock hb3) (rowsD_T _)
      generalize L2.upd H2 pb (.dT k2) = H3 at *
      rw [hkl, List.take_length] at hws3
      have mem3 : ∀ b, b ∈ ks1 ++ ks2.filter (fun b => decide (b ∉ r1)) ↔ b ∈ r1 ++ r2 := fun b => by
        rw [List.mem_append, List.mem_append, List.mem_filter, hm1, hm2]
        constructor
        · rintro (h | ⟨h, _⟩)
          · exact .inl h
          · exact .inr h
        · rintro (h | h)
          · exact .inl h
          · by_cases z : b ∈ r1
            · exact .inl z
            · exact .inr ⟨h, by simpa using z⟩
      have nd3 : (ks1 ++ ks2.filter (fun b => decide (b ∉ r1))).Nodup := by
        rw [List.nodup_append]
        refine ⟨nd1, nd2.filter _, fun a ha b hb e => ?_⟩
        have := (List.mem_filter.mp hb).2
        exact (by simpa using this : b ∉ r1) (e ▸ (hm1 a).mp ha)
      have len3 : (ks1 ++ ks2.filter (fun b => decide (b ∉ r1))).length ≤ 6 := by
        have := List.length_filter_le (fun b => decide (b ∉ r1)) ks2
        rw [List.length_append]
        omega
      have sc := srt_congr mem3
      have srl := srt_len (ks1 ++ ks2.filter (fun b => decide (b ∉ r1)))
      generalize ks1 ++ ks2.filter (fun b => decide (b ∉ r1)) = rs at *
      have ca3 := ca.ex exu
      have cb3 := cb.ex exu
      have h53 := h5.ex exu
      refine q_asgN (ds := []) (en_lst eda_nil (by simp)) fun f fs H4 f0 e4 hf hfs => ?_
      have efs : fs = [] := hfs
      subst efs
      have f0' : H f = none := fresh_back exu f0
      let S := srt (r1 ++ r2)
      let pr : List Int → Bool := fun b => decide (¬ r1.count b = r2.count b)
      let fd := fun n => ((S.take n).filter pr).map (learnD side own coin y z r1 r2)
      have hfl : f ≠ l := fun z => by rw [z, hl3] at f0; cases f0
      refine q_forN (ds := rowsD S) (EvN.is (en_callN rs (eda_cons (ed_var rfl ((Dat.lst hl3 hws3).ex e4)) eda_nil) ⟨nd3, by omega⟩) (by rw [sc])) (rowsD_T _) (fun H5 i σ' H' => ExB f H5 H' ∧ ∃ (fs : List V) (o8 o10 : Option V), σ' = [some v1, some (.int side), some (.int own), some (.int coin), some v5, some (.ref pa), some (.ref pb), some (.ref l), o8, some (.ref f), o10] ∧ H' f = some (.lst fs) ∧ DatL H' (fd i) fs) ?_ ?_ ?_ ?_
      · exact fun H5 e5 => ⟨ExB.refl _ _, [], _, _, rfl, e5 _ _ hf, rfl⟩
      · intro H5 a vs i σ' H' a0 e5 ha ⟨eb5, fs, o8, o10, _, hf5, _⟩
        have naf : a ≠ f := fun z => by rw [z, hf] at a0; cases a0
        exact ⟨eb5.toTE (e5 _ _ hf), eb5 a _ naf ha⟩
      · rintro H5 i d v σ' H' e5 hi ⟨eb5, fs, o8, o10, rfl, hf5, dfs⟩ hdv
        rw [List.getElem?_map] at hi
        obtain ⟨b, hb, rfl⟩ := Option.map_eq_some_iff.mp hi
        have ex5 : Ex H3 H' := eb5.ex (e4.trans e5) f0
        have tk : S.take (i + 1) = S.take i ++ [b] := by rw [List.take_add_one, hb]; rfl
        refine q_asgR (ed_tup (eda_cons (ed_get rfl (ca3.ex ex5) (ed_var rfl hdv)) (eda_cons (ed_get rfl (cb3.ex ex5) (ed_var rfl hdv)) eda_nil)) (by simp)) fun v10 H6 e6 hv10 => ?_
        have lfs := dfs.length
        rw [List.length_map] at lfs
        have lf := List.length_filter_le pr (S.take i)
        rw [List.length_take] at lf
        have lS : S.length ≤ 6 := by
          have := srt_len (r1 ++ r2)
          rw [List.length_append] at this
          show (srt (r1 ++ r2)).length ≤ 6
          omega
        refine s_when (b := !decide (((r1.count b : Nat) : Int) = ((r2.count b : Nat) : Int))) (et_b (ed_neI (ed_ixT (K := K) (j := 0) (ed_var rfl hv10) ed_ci rfl rfl) (ed_ixT (j := 1) (ed_var rfl hv10) ed_ci rfl rfl))) (fun hc H7 e7 => ?_) (fun hc H7 e7 => ?_)
        · have hpr : pr b = true := by
            simp at hc
            simp only [pr, decide_eq_true_eq]
            omega
          have e57 := ex5.trans (e6.trans e7)
          refine s_appR (e7 _ _ (e6 _ _ hf5)) (ev_var rfl) (ed_tup (ds := [.str "learns", .int side, .int own, .int coin, .tup [.int y, .int z], bitsD b, .tup [.int (r1.count b : Nat), .int (r2.count b : Nat)]]) (eda_cons ed_cs (eda_cons (ed_var (d := .int side) rfl rfl) (eda_cons (ed_var (d := .int own) rfl rfl) (eda_cons (ed_var (d := .int coin) rfl rfl) (eda_cons (ed_var (d := pairD y z) rfl (h53.ex e57)) (eda_cons (ed_var rfl ((hdv.ex e6).ex e7)) (eda_cons (ed_var rfl (hv10.ex e7)) eda_nil))))))) (by simp)) (by omega) fun u H8 e8 hu => ?_
          have hf8 := e8 _ _ (e7 _ _ (e6 _ _ hf5))
          have te : TE H8 (L2.upd H8 f (.lst (fs ++ [u]))) := TE.upd hf8
          refine ⟨eb5.trans ((ExB.of (e6.trans (e7.trans e8))).trans ExB.upd), fs ++ [u], _, _, rfl, upd_same, ?_⟩
          show DatL _ (((S.take (i + 1)).filter pr).map (learnD side own coin y z r1 r2)) _
          rw [tk, List.filter_append, List.filter_cons_of_pos hpr, List.filter_nil, List.map_append]
          exact ((dfs.ex (e6.trans (e7.trans e8))).te te (TL_map _ (learnD_T _ _ _ _ _ _ _) _)).snoc (Dat.te te (learnD_T side own coin y z r1 r2 b) hu)
        · have hpr : ¬ pr b = true := by
            simp at hc
            simp only [pr, decide_eq_true_eq]
            omega
          refine ⟨eb5.trans (ExB.of (e6.trans e7)), fs, _, _, rfl, e7 _ _ (e6 _ _ hf5), ?_⟩
          show DatL _ (((S.take (i + 1)).filter pr).map (learnD side own coin y z r1 r2)) _
          rw [tk, List.filter_append, List.filter_cons_of_neg hpr, List.filter_nil, List.append_nil]
          exact dfs.ex (e6.trans e7)
      · rintro H5 σ' H' e5 ⟨eb5, fs, o8, o10, rfl, hf5, dfs⟩
        have ex5 : Ex H3 H' := eb5.ex (e4.trans e5) f0
        refine s_ret (ev_var rfl) fun H6 e6 => k f fs H6 f0' ((exu.trans ex5).trans e6) (e6 _ _ hf5) ?_
        rw [List.length_map] at dfs
        have e : fd S.length = LrnA.res ⟨side, own, coin, y, z, r1, r2⟩ := by
          show ((S.take S.length).filter pr).map _ = _
          rw [List.take_length]
          rfl
        rw [e] at dfs
        exact dfs.ex e6
end
end JH
set_option Elab.async false
set_option maxRecDepth 100000
set_option maxHeartbeats 4000000
/-! the law's own search: all that is learned, the wrongs, the verdict -/
namespace JH
open PySem PySem.Spec PyProof.Rows L2 Evl
/-- all answers are right -/
def RightT (Z : Sz) (M : List (List Int)) (t : Tr) : Prop := ∀ x y r s, x < Z.X → y < Z.Y → r < Z.c0 → s < Z.c1 → (t.run x y r s).2 = (get2 M x y, get2 M x y)
theorem ans_O (M : List (List Int)) (side own other : Nat) : ans M side own other = ansO M side own other := rfl
structure TalkR extends TalkA where
structure TalkA.Right (a : TalkA) : Prop where
  ok : a.Ok
  right : RightT a.Z a.M a.t
abbrev sp_learns : Sp := spP TalkA.args TalkA.Ok (fun a => .lst (lrnA a.Z a.t a.M))
abbrev sp_wrongs : Sp := spP TalkA.args TalkA.Right (fun _ => .lst [])
def flawD (a : TalkA) : D := match (lrnA a.Z a.t a.M).head? with
  | none => .non
  | some d => d
abbrev sp_flaw : Sp := spP TalkA.args TalkA.Right flawD
abbrev sp_right : Sp := spP TalkA.args TalkA.Right (fun _ => .bl true)
theorem sz_pair {Z : Sz} {side : Nat} (h : side < 2) : [D.int Z.X, .int Z.Y][side]? = some (.int (Z.sz side)) := by
  rcases (by omega : side = 0 ∨ side = 1) with e | e
  · subst e; rfl
  · subst e; rfl
theorem sz_pair1 {Z : Sz} {side : Nat} (h : side < 2) : [D.int Z.X, .int Z.Y][1 - side]? = some (.int (Z.sz (1 - side))) := sz_pair (by omega)
theorem talk_cn1 {Z : Sz} {t : Tr} {side : Nat} (h : side < 2) : [D.str "talk", .int Z.c0, .int Z.c1, t.d][1 + side]? = some (.int (Z.cn side)) := by
  rcases (by omega : side = 0 ∨ side = 1) with e | e
  · subst e; rfl
  · subst e; rfl
section
variable {P : Program} {w : World} {K : PySem.W.Frag} {mg : Str → Option Value} {base : Heap} {C : Addr}
section
variable {σ : L2.St} {H : Hp} {ta tb : L2.TE} {X Y : Nat} {M : List (List Int)}
theorem ed_rowsN (sh : Sh X Y M) (h : EvD ta σ H (mat M)) : EvD (tCB (rLenS K) (tCons ta tNil)) σ H (.int (X : Int)) := by
  have h' : EvD ta σ H (.tup (M.map fun r => D.tup (r.map D.int))) := h
  exact ed_is (ed_lenT h') (by rw [lenM sh])
theorem ed_colsN (sh : Sh X Y M) (hx : 1 ≤ X) (h : EvD ta σ H (mat M)) : EvD (tCB (rLenS K) (tCons (tOp (rIxT K) ta (tC (.int 0))) tNil)) σ H (.int (Y : Int)) := by
  have h' : EvD ta σ H (.tup (M.map fun r => D.tup (r.map D.int))) := h
  obtain ⟨r0, hr0, hl0⟩ := sh.row (i := 0) (by omega)
  exact ed_is (ed_lenT (ds := r0.map D.int) (ed_ixT (j := 0) h' ed_ci rfl (by rw [List.getElem?_map, hr0]; rfl))) (by rw [List.length_map, hl0])
end
abbrev K_law_learns (P : Program) (w : World) (K : PySem.W.Frag) (mg : Str → Option Value) (base : Heap) : Prop := Fk P w K mg base "_law_learns" ["_law_talk", "_law_table_here"] 3 sp_learns
theorem sc_law_learns : FnScope ["_law_talk", "_law_table_here", "_law_sizes", "_law_found", "_law_side", "_law_mine", "_law_coin", "_law_counts_here", "_law_other", "_law_a", "_law_b"] ["_law_talk", "_law_table_here"] (defScope s_law_learns) := ⟨rfl, rfl, rfl, by decide +kernel, rfl, by decide +kernel, by decide +kernel⟩
theorem ok_law_learns {f : Addr} {fd : FuncData} (F : FnP K "_law_learns" "_law_learns" s_law_learns f fd) (T : Txt mg) (c_law_counts : K_law_counts P w K mg base) (c_law_told_answer : K_law_told_answer P w K mg base) (c_law_learned : K_law_learned P w K mg base) : FnOk P w K mg base CX0 3 f fd ["_law_talk", "_law_table_here"] (sp_learns) := by
  refine FunD.ok F sc_law_learns (fun vs H Q E h => ?_) (fun cdv A outer s H vs Q E hr h => ?_)
  · obtain ⟨a, hd, _⟩ := h
    exact hd.length
  · obtain ⟨⟨Z, t, M⟩, hd, ⟨zok, wf, dep, sh⟩, k⟩ := h
    simp only at zok wf dep sh
    obtain ⟨v1, v2, rfl, h1, h2⟩ := datL2 hd
    have h1' : Dat H (.tup [.str "talk", .int Z.c0, .int Z.c1, t.d]) v1 := h1
    refine ⟨_, PSs.nox (pss_cons (psv 2 sc_law_learns.nd (pe_tup (pa_cons (pe_callB (k_len (K := K)) (by rfl) T.len bt_len (pa_cons (pv 1) pa_nil)) (pa_cons (pe_callB (k_len (K := K)) (by rfl) T.len bt_len (pa_cons (pe_ix (k_ixT (K := K)) (pv 1) pe_int (fun _ _ => rfl)) pa_nil)) pa_nil))))
    (pss_cons (psv 3 sc_law_learns.nd (pe_lst pa_nil))
    (pss_cons (ps_for PassesOwn.never (by rfl) (pi_range1 (by rfl) T.range (pa_cons pe_int pa_nil)) (pgv 4 sc_law_learns.nd)
    (pss_one (ps_for PassesOwn.never (by rfl) (pi_range1 (by rfl) T.range (pa_cons (pe_ix (k_ixT (K := K)) (pv 2) (pv 4) (fun _ _ => rfl)) pa_nil)) (pgv 5 sc_law_learns.nd)
    (pss_one (ps_for PassesOwn.never (by rfl) (pi_range1 (by rfl) T.range (pa_cons (pe_ix (k_ixT (K := K)) (pv 0) (pe_op op_add pe_int (pv 4)) (fun _ _ => rfl)) pa_nil)) (pgv 6 sc_law_learns.nd)
    (pss_cons (ps_setLc (i := 7) (own := [("_law_other", 8)]) (by rfl) sc_law_learns.nd rfl rfl (sw_true rfl rfl rfl (by decide +kernel)) (pi_range1 (by rfl) T.range (pa_cons (pe_ix (k_ixT (K := K)) (pv 2) (pe_op op_sub pe_int (pv 4)) (fun _ _ => rfl)) pa_nil)) (blkOk_by (by kernel_rfl)) (fun _ _ _ _ _ => (pgv 8 sc_law_learns.nd)) (fun _ _ _ _ _ => pts_nil) (fun _ _ _ _ _ => (pe_callF c_law_counts hr (by first | decide | omega) (pa_cons (pv 0) (pa_cons (pv 4) (pa_cons (pv 5) (pa_cons (pv 6) (pa_cons (pv 8) pa_nil))))))))
    (pss_one (ps_for PassesOwn.never (by rfl) (pi_range1 (by rfl) T.range (pa_cons (pe_ix (k_ixT (K := K)) (pv 2) (pe_op op_sub pe_int (pv 4)) (fun _ _ => rfl)) pa_nil)) (pgv 9 sc_law_learns.nd)
    (pss_one (ps_for PassesOwn.never (by rfl) (pi_range2 (by rfl) T.range (pa_cons (pe_op op_add (pv 9) pe_int) (pa_cons (pe_ix (k_ixT (K := K)) (pv 2) (pe_op op_sub pe_int (pv 4)) (fun _ _ => rfl)) pa_nil))) (pgv 10 sc_law_learns.nd)
    (pss_one (ps_if (pt_cmpR op_eq (pe_callF c_law_told_answer hr (by first | decide | omega) (pa_cons (pv 1) (pa_cons (pv 4) (pa_cons (pv 5) (pa_cons (pv 9) pa_nil))))) (pe_callF c_law_told_answer hr (by first | decide | omega) (pa_cons (pv 1) (pa_cons (pv 4) (pa_cons (pv 5) (pa_cons (pv 10) pa_nil))))) (nomark _))
    (pss_one (psv 3 sc_law_learns.nd (pe_op op_cat (pv 3) (pe_callF c_law_learned hr (by first | decide | omega) (pa_cons (pv 0) (pa_cons (pv 4) (pa_cons (pv 5) (pa_cons (pv 6) (pa_cons (pe_tup (pa_cons (pv 9) (pa_cons (pv 10) pa_nil))) (pa_cons (pe_ix (k_ixL (K := K)) (pv 7) (pv 9) (fun _ _ => rfl)) (pa_cons (pe_ix (k_ixL (K := K)) (pv 7) (pv 10) (fun _ _ => rfl)) pa_nil)))))))))))
    pss_nil))))))))))))
    (pss_one (ps_ret (pv 3)))))), ?_⟩
    refine q_asgR (ed_tup (ds := [.int Z.X, .int Z.Y]) (eda_cons (ed_rowsN sh (ed_var rfl h2)) (eda_cons (ed_colsN sh zok.x1 (ed_var rfl h2)) eda_nil)) (by simp)) fun v3 H1 e1 hv3 => ?_
    refine q_asgR (EvN.toD (en_lst (ds := []) eda_nil (by simp))) fun v4 H2 e2 hv4 => ?_
    have e12 := e1.trans e2
    have hv3' := hv3.ex e2
    let INV : List D → Hp → L2.St → Hp → Prop := fun acc H0 σ' H' => Ex H0 H' ∧ ∃ (f : V) (o4 o5 o6 o7 o9 o10 : Option V), σ' = [some v1, some v2, some v3, some f, o4, o5, o6, o7, none, o9, o10] ∧ Dat H' (.lst acc) f
    refine q_forR (n := 2) ed_ci (by decide) (fun i => INV ((List.range i).flatMap (lrnS Z t M)) H2) (fun H3 e3 => ⟨e3, v4, _, _, _, _, _, _, rfl, hv4.ex e3⟩) ?_ ?_
    · rintro side σ' H' s2 ⟨ex, f, o4, o5, o6, o7, o9, o10, rfl, hf⟩
      have exH := e12.trans ex
      have len1 := flat_len (fun j => lrnS_len zok t M j) side
      have T1 : D.TL ((List.range side).flatMap (lrnS Z t M)) = true := TL_flat (fun j => lrnS_T Z t M j) _
      generalize hA1 : (List.range side).flatMap (lrnS Z t M) = A1 at *
      refine s_forR (n := Z.sz side) (ed_ixT (j := side) (ed_var rfl (hv3'.ex ex)) (ed_var (d := .int side) rfl rfl) rfl (sz_pair s2)) (by have := sz_le4 zok side; omega) (fun i σ2 H2 => Ex H' H2 ∧ ∃ (f : V) (o5 o6 o7 o9 o10 : Option V), σ2 = [some v1, some v2, some v3, some f, some (.int side), o5, o6, o7, none, o9, o10] ∧ Dat H2 (.lst (A1 ++ (List.range i).flatMap (lrnO Z t M side))) f) (fun H3 e3 => ⟨e3, f, _, _, _, _, _, rfl, by
        rw [List.range_zero, List.flatMap_nil, List.append_nil]; exact hf.ex e3⟩) ?_ (fun σ2 H2 ⟨ex2, f, o5, o6, o7, o9, o10, e, hf2⟩ => ⟨ex.trans ex2, f, _, _, _, _, _, _, e, by rw [flat_snoc, hA1]; exact hf2⟩)
      rintro own σ2 H2 ho ⟨ex2, f, o5, o6, o7, o9, o10, rfl, hf2⟩
      have exH2 := exH.trans ex2
      have len2 := flat_len (fun j => lrnO_len zok t M side j) own
      have T2 : D.TL (A1 ++ (List.range own).flatMap (lrnO Z t M side)) = true := TL_append T1 (TL_flat (fun j => lrnO_T Z t M side j) _)
      have len2' : (A1 ++ (List.range own).flatMap (lrnO Z t M side)).length ≤ side * 1152 + own * 288 := by rw [List.length_append]; omega
      have so := sz_le4 zok side
      have st := sz_le4 zok (1 - side)
      have sc := cn_le3 zok side
      generalize hA2 : A1 ++ (List.range own).flatMap (lrnO Z t M side) = A2 at *
      refine s_forR (n := Z.cn side) (ed_ixT (j := 1 + side) (ed_var rfl (h1'.ex exH2)) (ed_I0 (g := fun i j => i + j) ed_ci (ed_var (d := .int side) rfl rfl)) (by omega) (talk_cn1 s2)) (by omega) (fun i σ3 H3 => Ex H2 H3 ∧ ∃ (f : V) (o6 o7 o9 o10 : Option V), σ3 = [some v1, some v2, some v3, some f, some (.int side), some (.int own), o6, o7, none, o9, o10] ∧ Dat H3 (.lst (A2 ++ (List.range i).flatMap (lrnC Z t M side own))) f) (fun H3 e3 => ⟨e3, f, _, _, _, _, rfl, by
        rw [List.range_zero, List.flatMap_nil, List.append_nil]; exact hf2.ex e3⟩) ?_ (fun σ3 H3 ⟨ex3, f, o6, o7, o9, o10, e, hf3⟩ => ⟨ex2.trans ex3, f, _, _, _, _, _, e, by rw [flat_snoc, ← List.append_assoc, hA2]; exact hf3⟩)
      rintro coin σ3 H3 hc ⟨ex3, f, o6, o7, o9, o10, rfl, hf3⟩
      have exH3 := exH2.trans ex3
      have len3 := flat_len (fun j => lrnC_len zok t M side own j) coin
      have T3 : D.TL (A2 ++ (List.range coin).flatMap (lrnC Z t M side own)) = true := TL_append T2 (TL_flat (fun j => lrnC_T Z t M side own j) _)
      have len3' : (A2 ++ (List.range coin).flatMap (lrnC Z t M side own)).length ≤ side * 1152 + own * 288 + coin * 96 := by rw [List.length_append]; omega
      generalize hA3 : A2 ++ (List.range coin).flatMap (lrnC Z t M side own) = A3 at *
      refine q_asgNR (er_lcV (R := fun j H v => ∃ p, v = .ref p ∧ CntAt H p (rowsOf Z t side own coin j)) (n := Z.sz (1 - side)) (fun i H H' v ne ⟨p, e, c⟩ => ⟨p, e, c.ne ne⟩) (ed_ixT (j := 1 - side) (ed_var rfl (hv3'.ex ((ex.trans ex2).trans ex3))) (ed_I0 (g := fun i j => i - j) ed_ci (ed_var (d := .int side) rfl rfl)) (by omega) (sz_pair1 s2)) (by omega) (fun _ => rfl) (fun other H4 e4 ht => ?_)) fun cp cs H4 cp0 e4 hcp hcl hcs => ?_
      · exact er_call (eda_cons (ed_var rfl (h1.ex (exH3.trans e4))) (eda_cons (ed_var (d := .int side) rfl rfl) (eda_cons (ed_var (d := .int own) rfl rfl) (eda_cons (ed_var (d := .int coin) rfl rfl) (eda_cons (ed_var (d := .int other) rfl rfl) eda_nil))))) fun vs H5 e5 hvs Q' q' => ⟨⟨Z, t, side, own, coin, other⟩, by rw [List.append_nil]; exact hvs, ⟨zok, wf, dep, s2, ho, hc, ht⟩, fun p H6 _ e6 cp => q' _ H6 e6 ⟨p, rfl, cp⟩⟩
      · have exH4 := exH3.trans e4
        refine s_forR (n := Z.sz (1 - side)) (ed_ixT (j := 1 - side) (ed_var rfl (hv3'.ex (((ex.trans ex2).trans ex3).trans e4))) (ed_I0 (g := fun i j => i - j) ed_ci (ed_var (d := .int side) rfl rfl)) (by omega) (sz_pair1 s2)) (by omega) (fun i σ4 H5 => Ex H4 H5 ∧ ∃ (f : V) (o9 o10 : Option V), σ4 = [some v1, some v2, some v3, some f, some (.int side), some (.int own), some (.int coin), some (.ref cp), none, o9, o10] ∧ Dat H5 (.lst (A3 ++ (List.range i).flatMap (lrn1 Z t M side own coin (Z.sz (1 - side))))) f) (fun H5 e5 => ⟨e5, f, _, _, rfl, by
          rw [List.range_zero, List.flatMap_nil, List.append_nil]; exact (hf3.ex e4).ex e5⟩) ?_ (fun σ4 H5 ⟨ex4, f, o9, o10, e, hf4⟩ => ⟨ex3.trans (e4.trans ex4), f, _, _, _, _, e, by rw [flat_snoc, ← List.append_assoc, hA3]; exact hf4⟩)
        rintro y σ4 H5 hy ⟨ex4, f, o9, o10, rfl, hf4⟩
        have exH5 := exH4.trans ex4
        have len4 := flat_len (f := lrn1 Z t M side own coin (Z.sz (1 - side))) (fun j => lrn1_len zok t M side own coin (Z.sz (1 - side)) j st) y
        have T4 : D.TL (A3 ++ (List.range y).flatMap (lrn1 Z t M side own coin (Z.sz (1 - side)))) = true := TL_append T3 (TL_flat (fun j => lrn1_T Z t M side own coin _ j) _)
        have len4' : (A3 ++ (List.range y).flatMap (lrn1 Z t M side own coin (Z.sz (1 - side)))).length ≤ side * 1152 + own * 288 + coin * 96 + y * 24 := by rw [List.length_append]; omega
        generalize hA4 : A3 ++ (List.range y).flatMap (lrn1 Z t M side own coin (Z.sz (1 - side))) = A4 at *
        refine s_forR2 (lo := y + 1) (n := Z.sz (1 - side)) (ed_I0 (g := fun i j => i + j) (ed_var (d := .int y) rfl rfl) ed_ci) (ed_ixT (j := 1 - side) (ed_var rfl (hv3'.ex ((((ex.trans ex2).trans ex3).trans e4).trans ex4))) (ed_I0 (g := fun i j => i - j) ed_ci (ed_var (d := .int side) rfl rfl)) (by omega) (sz_pair1 s2)) (by omega) (by omega) (fun i σ5 H6 => Ex H5 H6 ∧ ∃ (f : V) (o10 : Option V), σ5 = [some v1, some v2, some v3, some f, some (.int side), some (.int own), some (.int coin), some (.ref cp), none, some (.int y), o10] ∧ Dat H6 (.lst (A4 ++ (List.range i).flatMap fun i => lrn2 Z t M side own coin y (y + 1 + i))) f) (fun H6 e6 => ⟨e6, f, _, rfl, by
          rw [List.range_zero, List.flatMap_nil, List.append_nil]; exact hf4.ex e6⟩) ?_ (fun σ5 H6 ⟨ex5, f, o10, e, hf5⟩ => ⟨ex4.trans ex5, f, _, _, e, by rw [flat_snoc, ← List.append_assoc, hA4]; exact hf5⟩)
        rintro i σ5 H6 hi ⟨ex5, f, o10, rfl, hf5⟩
        have exH6 := exH5.trans ex5
        have len5 := flat_len (fun j => lrn2_len zok t M side own coin y (y + 1 + j)) i
        have T5 : D.TL (A4 ++ (List.range i).flatMap fun i => lrn2 Z t M side own coin y (y + 1 + i)) = true := TL_append T4 (TL_flat (fun j => lrn2_T Z t M side own coin y _) _)
        have len5' : (A4 ++ (List.range i).flatMap fun i => lrn2 Z t M side own coin y (y + 1 + i)).length ≤ side * 1152 + own * 288 + coin * 96 + y * 24 + i * 6 := by rw [List.length_append]; omega
        generalize hA5 : A4 ++ (List.range i).flatMap (fun i => lrn2 Z t M side own coin y (y + 1 + i)) = A5 at *
        have hzz : y + 1 + i < Z.sz (1 - side) := hi
        generalize hz : y + 1 + i = z at *
        have an : ∀ (j : Nat) (m : Nat) (σ6 : L2.St), m < Z.sz (1 - side) → σ6[1]? = some (some v2) → σ6[4]? = some (some (.int (side : Int))) → σ6[5]? = some (some (.int (own : Int))) → σ6[j]? = some (some (.int (m : Int))) → EvD (tCall sp_ans [] E0 (tCons (tVar 1) (tCons (tVar 4) (tCons (tVar 5) (tCons (tVar j) tNil))))) σ6 H6 (.int (ans M side own m)) := fun j m σ6 hm g1 g4 g5 gj =>
          ed_callP (AnsA.mk Z M side own m) (eda_cons (ed_var g1 (h2.ex exH6)) (eda_cons (ed_var (d := .int side) g4 rfl) (eda_cons (ed_var (d := .int own) g5 rfl) (eda_cons (ed_var (d := .int m) gj rfl) eda_nil)))) ⟨sh, s2, ho, hm⟩
        refine s_when (b := decide (ans M side own y = ans M side own z)) (et_b (ed_eqI (an 9 y _ hy rfl rfl rfl rfl) (an 10 z _ hzz rfl rfl rfl rfl))) (fun hb H7 e7 => ?_) (fun hb H7 e7 => ?_)
        · have exH7 := exH6.trans e7
          have e47 : Ex H4 H7 := ex4.trans (ex5.trans e7)
          have l2 : lrn2 Z t M side own coin y z = lrnPair Z t side own coin y z := if_pos (of_decide_eq_true hb)
          have gv : ∀ m, m < Z.sz (1 - side) → ∃ p, cs[m]? = some (.ref p) ∧ CntAt H7 p (rowsOf Z t side own coin m) := fun m hm => by
            have hg : cs[m]? = some (cs[m]'(by omega)) := List.getElem?_eq_getElem (by omega)
            obtain ⟨p, e, c⟩ := hcs m _ hg
            exact ⟨p, by rw [hg, e], c.ex e47⟩
          obtain ⟨pa, ga, ca⟩ := gv y hy
          obtain ⟨pb, gb, cb⟩ := gv z hzz
          have lp := lrn2_len zok t M side own coin y z
          rw [l2] at lp
          have hcp7 := e47 _ _ hcp
          refine s_asgR (EvN.toD (en_cat (a := A5) (b := lrnPair Z t side own coin y z) (ed_var rfl (hf5.ex e7)) (er_call (R := fun H vs => ∃ v5, vs = [v1, .int side, .int own, .int coin, v5, .ref pa, .ref pb] ∧ Dat H (pairD y z) v5) (fun H8 e8 Q' q' => ?_) (fun vs H8 e8 ⟨v5, evs, h5⟩ Q' q' => ⟨⟨side, own, coin, y, z, rowsOf Z t side own coin y, rowsOf Z t side own coin z⟩, v1, v5, pa, pb, by rw [List.append_nil]; exact evs, h5, ca.ex e8, cb.ex e8, by rw [rowsOf_len]; exact cn_le3 zok _, by rw [rowsOf_len]; exact cn_le3 zok _, fun l ws H9 _ e9 hl hws => q' _ H9 e9 (Dat.lst hl hws)⟩)) (by omega))) fun v H8 e8 hv => ⟨ex5.trans (e7.trans e8), v, _, rfl, by
            rw [flat_snoc, ← List.append_assoc, hA5, hz, l2]; exact hv⟩
          refine ⟨_, rfl, _, rfl, _, rfl, _, rfl, ed_tup (ds := [.int y, .int z]) (eda_cons (ed_var (d := .int y) rfl rfl) (eda_cons (ed_var (d := .int z) rfl rfl) eda_nil)) (by simp) H8 (Ex.refl _) _ fun v5 H9 e9 h5 => ?_⟩
          refine ⟨_, rfl, _, rfl, cp, cs, (y : Int), .ref pa, rfl, rfl, sq_of ((e8.trans e9) _ _ hcp7), atI_nat ga, ?_⟩
          refine ⟨_, rfl, _, rfl, cp, cs, (z : Int), .ref pb, rfl, rfl, sq_of ((e8.trans e9) _ _ hcp7), atI_nat gb, ?_⟩
          exact q' _ H9 e9 ⟨v5, rfl, h5⟩
        · have l2 : lrn2 Z t M side own coin y z = [] := if_neg (of_decide_eq_false hb)
          exact ⟨ex5.trans e7, f, _, rfl, by
            rw [flat_snoc, ← List.append_assoc, hA5, hz, l2, List.append_nil]; exact hf5.ex e7⟩
    · rintro σ' H' ⟨ex, f, o4, o5, o6, o7, o9, o10, rfl, hf⟩
      exact s_ret (ev_var rfl) fun H3 e3 => k f H3 ((e12.trans ex).trans e3) (hf.ex e3)
abbrev K_law_wrongs (P : Program) (w : World) (K : PySem.W.Frag) (mg : Str → Option Value) (base : Heap) : Prop := Fk P w K mg base "_law_wrongs" ["_law_talk", "_law_table_here"] 2 sp_wrongs
theorem sc_law_wrongs : FnScope ["_law_talk", "_law_table_here", "_law_found", "_law_x", "_law_y", "_law_r", "_law_s", "_law_answers", "_law_side"] ["_law_talk", "_law_table_here"] (defScope s_law_wrongs) := ⟨rfl, rfl, rfl, by decide +kernel, rfl, by decide +kernel, by decide +kernel⟩
theorem ok_law_wrongs {f : Addr} {fd : FuncData} (F : FnP K "_law_wrongs" "_law_wrongs" s_law_wrongs f fd) (T : Txt mg) (c_law_held : K_law_held P w K mg base) : FnOk P w K mg base CX0 2 f fd ["_law_talk", "_law_table_here"] (sp_wrongs) := by
  refine FunD.ok F sc_law_wrongs (fun vs H Q E h => ?_) (fun cdv A outer s H vs Q E hr h => ?_)
  · obtain ⟨a, hd, _⟩ := h
    exact hd.length
  · obtain ⟨⟨Z, t, M⟩, hd, ⟨⟨zok, wf, dep, sh⟩, right⟩, k⟩ := h
    simp only at zok wf dep sh right
    obtain ⟨v1, v2, rfl, h1, h2⟩ := datL2 hd
    have h1' : Dat H (.tup [.str "talk", .int Z.c0, .int Z.c1, t.d]) v1 := h1
    have zx := zok.x4
    have zy := zok.y4
    have zr := zok.r3
    have zs := zok.s3
    refine ⟨_, PSs.nox (pss_cons (psv 2 sc_law_wrongs.nd (pe_lst pa_nil))
    (pss_cons (ps_for PassesOwn.never (by rfl) (pi_range1 (by rfl) T.range (pa_cons (pe_callB (k_len (K := K)) (by rfl) T.len bt_len (pa_cons (pv 1) pa_nil)) pa_nil)) (pgv 3 sc_law_wrongs.nd)
    (pss_one (ps_for PassesOwn.never (by rfl) (pi_range1 (by rfl) T.range (pa_cons (pe_callB (k_len (K := K)) (by rfl) T.len bt_len (pa_cons (pe_ix (k_ixT (K := K)) (pv 1) pe_int (fun _ _ => rfl)) pa_nil)) pa_nil)) (pgv 4 sc_law_wrongs.nd)
    (pss_one (ps_for PassesOwn.never (by rfl) (pi_range1 (by rfl) T.range (pa_cons (pe_ix (k_ixT (K := K)) (pv 0) pe_int (fun _ _ => rfl)) pa_nil)) (pgv 5 sc_law_wrongs.nd)
    (pss_one (ps_for PassesOwn.never (by rfl) (pi_range1 (by rfl) T.range (pa_cons (pe_ix (k_ixT (K := K)) (pv 0) pe_int (fun _ _ => rfl)) pa_nil)) (pgv 6 sc_law_wrongs.nd)
    (pss_cons (psv 7 sc_law_wrongs.nd (pe_ix (k_ixT (K := K)) (pe_callF c_law_held hr (by first | decide | omega) (pa_cons (pv 0) (pa_cons (pe_tup (pa_cons (pv 3) (pa_cons (pv 4) pa_nil))) (pa_cons (pe_tup (pa_cons (pv 5) (pa_cons (pv 6) pa_nil))) pa_nil)))) pe_int (fun _ _ => rfl)))
    (pss_one (ps_for PassesOwn.never (by rfl) (pi_range1 (by rfl) T.range (pa_cons pe_int pa_nil)) (pgv 8 sc_law_wrongs.nd)
    (pss_one (ps_if (pt_cmpR op_ne (pe_ix (k_ixT (K := K)) (pv 7) (pv 8) (fun _ _ => rfl)) (pe_ix (k_ixT (K := K)) (pe_ix (k_ixT (K := K)) (pv 1) (pv 3) (fun _ _ => rfl)) (pv 4) (fun _ _ => rfl)) (nomark _))
    (pss_one (ps_expr (k_append (K := K) (pv 2) (pa_cons (pe_tup (pa_cons pe_str (pa_cons (pe_tup (pa_cons (pv 3) (pa_cons (pv 4) pa_nil))) (pa_cons (pe_tup (pa_cons (pv 5) (pa_cons (pv 6) pa_nil))) (pa_cons (pv 8) pa_nil))))) pa_nil))))
    pss_nil))))))))))))
    (pss_one (ps_ret (pv 2))))), ?_⟩
    refine q_asgR (EvN.toD (en_lst (ds := []) eda_nil (by simp))) fun v3 H1 e1 hv3 => ?_
    refine q_forR (n := Z.X) (ed_rowsN sh (ed_var rfl (h2.ex e1))) (by omega) (fun i σ' H' => Ex H1 H' ∧ ∃ o3 o4 o5 o6 o7 o8 : Option V, σ' = [some v1, some v2, some v3, o3, o4, o5, o6, o7, o8]) (fun H3 e3 => ⟨e3, _, _, _, _, _, _, rfl⟩) ?_ ?_
    · rintro x σ' H2 hx ⟨ex2, o3, o4, o5, o6, o7, o8, rfl⟩
      have exH2 := e1.trans ex2
      refine s_forR (n := Z.Y) (ed_colsN sh zok.x1 (ed_var rfl (h2.ex exH2))) (by omega) (fun i σ' H' => Ex H2 H' ∧ ∃ o4 o5 o6 o7 o8 : Option V, σ' = [some v1, some v2, some v3, some (.int x), o4, o5, o6, o7, o8]) (fun H3 e3 => ⟨e3, _, _, _, _, _, rfl⟩) ?_ (fun σ3 H3 ⟨ex3, o4, o5, o6, o7, o8, e⟩ => ⟨ex2.trans ex3, _, _, _, _, _, _, e⟩)
      rintro y σ' H3 hy ⟨ex3, o4, o5, o6, o7, o8, rfl⟩
      have exH3 := exH2.trans ex3
      refine s_forR (n := Z.c0) (ed_ixT (j := 1) (ed_var rfl (h1'.ex exH3)) ed_ci rfl rfl) (by omega) (fun i σ' H' => Ex H3 H' ∧ ∃ o5 o6 o7 o8 : Option V, σ' = [some v1, some v2, some v3, some (.int x), some (.int y), o5, o6, o7, o8]) (fun H4 e4 => ⟨e4, _, _, _, _, rfl⟩) ?_ (fun σ4 H4 ⟨ex4, o5, o6, o7, o8, e⟩ => ⟨ex3.trans ex4, _, _, _, _, _, e⟩)
      rintro r σ' H4 hr2 ⟨ex4, o5, o6, o7, o8, rfl⟩
      have exH4 := exH3.trans ex4
      refine s_forR (n := Z.c1) (ed_ixT (j := 2) (ed_var rfl (h1'.ex exH4)) ed_ci rfl rfl) (by omega) (fun i σ' H' => Ex H4 H' ∧ ∃ o6 o7 o8 : Option V, σ' = [some v1, some v2, some v3, some (.int x), some (.int y), some (.int r), o6, o7, o8]) (fun H5 e5 => ⟨e5, _, _, _, rfl⟩) ?_ (fun σ5 H5 ⟨ex5, o6, o7, o8, e⟩ => ⟨ex4.trans ex5, _, _, _, _, e⟩)
      rintro s2 σ' H5 hs ⟨ex5, o6, o7, o8, rfl⟩
      have exH5 := exH4.trans ex5
      have rt := right x y r s2 hx hy hr2 hs
      refine q_asgR (ed_ixT (K := K) (ds := [bitsD (t.run x y r s2).1, .tup [.int (t.run x y r s2).2.1, .int (t.run x y r s2).2.2]]) (d := .tup [.int (t.run x y r s2).2.1, .int (t.run x y r s2).2.2]) (j := 1) (ed_callP (HoldA.mk Z t x y r s2) (eda_cons (ed_var rfl (h1.ex exH5)) (eda_cons (ed_tup (ds := [.int x, .int y]) (eda_cons (ed_var (d := .int x) rfl rfl) (eda_cons (ed_var (d := .int y) rfl rfl) eda_nil)) (by simp)) (eda_cons (ed_tup (ds := [.int r, .int s2]) (eda_cons (ed_var (d := .int r) rfl rfl) (eda_cons (ed_var (d := .int s2) rfl rfl) eda_nil)) (by simp)) eda_nil))) ⟨zok, wf, by show t.dep ≤ 100; omega, hx, hy, hr2, hs⟩) ed_ci rfl rfl) fun w9 H6 e6 hw9 => ?_
      rw [rt] at hw9
      refine s_forR (n := 2) ed_ci (by decide) (fun i σ' H' => Ex H6 H' ∧ ∃ o8 : Option V, σ' = [some v1, some v2, some v3, some (.int x), some (.int y), some (.int r), some (.int s2), some w9, o8]) (fun H7 e7 => ⟨e7, _, rfl⟩) ?_ (fun σ7 H7 ⟨ex7, o8, e⟩ => ⟨ex5.trans (e6.trans ex7), _, _, _, e⟩)
      rintro side σ' H7 s2' ⟨ex7, o8, rfl⟩
      have hg : [D.int (get2 M x y), D.int (get2 M x y)][side]? = some (.int (get2 M x y)) := by
        rcases (by omega : side = 0 ∨ side = 1) with e | e
        · subst e; rfl
        · subst e; rfl
      refine s_when (b := false) (et_b (ed_is (ed_neI (i := get2 M x y) (j := get2 M x y) (ed_ixT (K := K) (j := side) (ed_var rfl (hw9.ex ex7)) (ed_var (d := .int side) rfl rfl) rfl hg) (ed_cell (ed_var rfl (h2.ex (exH5.trans (e6.trans ex7)))) (ed_var (d := .int x) rfl rfl) (ed_var (d := .int y) rfl rfl) sh hx hy rfl rfl)) (by simp))) (fun z => by cases z) (fun _ H8 e8 => ⟨ex7.trans e8, _, rfl⟩)
    · rintro σ' H' ⟨ex, o3, o4, o5, o6, o7, o8, rfl⟩
      exact s_ret (ev_var rfl) fun H3 e3 => k v3 H3 ((e1.trans ex).trans e3) (hv3.ex (ex.trans e3))
theorem sm_int (n : Nat) (i : Int) : D.sm n (.int i) = true := by cases n <;> rfl
theorem sm_bits {b : List Int} (h : b.length ≤ 1000) : D.sm 1 (bitsD b) = true := by
  show ((b.map D.int).all (D.sm 0) && decide ((b.map D.int).length ≤ 1000)) = true
  rw [Bool.and_eq_true]
  refine ⟨List.all_eq_true.mpr fun d hd => ?_, by simpa using h⟩
  obtain ⟨i, _, rfl⟩ := List.mem_map.mp hd
  rfl
theorem sm_learn {side own coin y z : Nat} {r1 r2 : List (List Int)} {b : List Int} (h : b.length ≤ 1000) : D.sm 2 (learnD side own coin y z r1 r2 b) = true := by
  have := sm_bits h
  show (([D.str "learns", .int side, .int own, .int coin, .tup [.int y, .int z], bitsD b, .tup [.int (r1.count b : Nat), .int (r2.count b : Nat)]]).all (D.sm 1) && _) = true
  simp [this, D.sm]
theorem lrnA_sm2 {a : TalkA} (ok : a.Ok) : ∀ d ∈ lrnA a.Z a.t a.M, D.sm 2 d = true := fun d hd => by
  obtain ⟨side, own, coin, y, z, b, rfl, hb, h1, h2, h3, h4, h5⟩ := lrnA_sm d hd
  refine sm_learn ?_
  have hb := (mem_srt _ _).mp hb
  have : BitRow b := by
    rcases List.mem_append.mp hb with hb | hb
    · exact rowsOf_bits ok.wf ok.dep h1 h2 h3 h4 b hb
    · exact rowsOf_bits ok.wf ok.dep h1 h2 h3 h5 b hb
  have := this.1
  omega
abbrev K_flaw_of (P : Program) (w : World) (K : PySem.W.Frag) (mg : Str → Option Value) (base : Heap) : Prop := Fk P w K mg base "flaw_of" ["talk", "table"] 9 sp_flaw
abbrev K_law_is_right (P : Program) (w : World) (K : PySem.W.Frag) (mg : Str → Option Value) (base : Heap) : Prop := Fk P w K mg base "_law_is_right" ["_law_talk", "_law_table_here"] 10 sp_right
theorem sc_law_is_right : FnScope ["_law_talk", "_law_table_here", "_law_due", "_law_found"] ["_law_talk", "_law_table_here"] (defScope s_law_is_right) := ⟨rfl, rfl, rfl, by decide +kernel, rfl, by decide +kernel, by decide +kernel⟩
theorem ok_law_is_right {f : Addr} {fd : FuncData} (F : FnP K "_law_is_right" "_law_is_right" s_law_is_right f fd) (T : Txt mg) (c_law_wrongs : K_law_wrongs P w K mg base) (c_law_learns : K_law_learns P w K mg base) (c_flaw_of : K_flaw_of P w K mg base) (c_law_same : K_law_same P w K mg base 3) : FnOk P w K mg base CX0 10 f fd ["_law_talk", "_law_table_here"] (sp_right) := by
  refine FunD.ok F sc_law_is_right (fun vs H Q E h => ?_) (fun cdv A outer s H vs Q E hr h => ?_)
  · obtain ⟨a, hd, _⟩ := h
    exact hd.length
  · obtain ⟨a, hd, ok, k⟩ := h
    obtain ⟨v1, v2, rfl, h1, h2⟩ := datL2 hd
    refine ⟨_, PSs.nox (pss_cons (ps_if (pt_cmpR op_gt (pe_callB (k_len (K := K)) (by rfl) T.len bt_len (pa_cons (pe_callF c_law_wrongs hr (by first | decide | omega) (pa_cons (pv 0) (pa_cons (pv 1) pa_nil))) pa_nil)) pe_int (nomark _))
    (pss_one (ps_ret pe_bl))
    pss_nil)
    (pss_cons (psv 2 sc_law_is_right.nd (pe_callF c_law_learns hr (by first | decide | omega) (pa_cons (pv 0) (pa_cons (pv 1) pa_nil))))
    (pss_cons (psv 3 sc_law_is_right.nd (pe_callF c_flaw_of hr (by first | decide | omega) (pa_cons (pv 0) (pa_cons (pv 1) pa_nil))))
    (pss_cons (ps_if (pt_cmpR op_eq (pe_callB (k_len (K := K)) (by rfl) T.len bt_len (pa_cons (pv 2) pa_nil)) pe_int (nomark _))
    (pss_one (ps_ret (pe_cmpR op_isN (pv 3) pe_non (nomark _))))
    pss_nil)
    (pss_one (ps_ret (pe_callF c_law_same hr (by first | decide | omega) (pa_cons (pv 3) (pa_cons (pe_ix (k_ixL (K := K)) (pv 2) pe_int (fun _ _ => rfl)) pa_nil))))))))), ?_⟩
    have ar : ∀ (σ' : L2.St) H', Ex H H' → σ'[0]? = some (some v1) → σ'[1]? = some (some v2) → EvDA (tCons (tVar 0) (tCons (tVar 1) tNil)) σ' H' a.args := fun σ' H' e g0 g1 => eda_cons (ed_var g0 (h1.ex e)) (eda_cons (ed_var g1 (h2.ex e)) eda_nil)
    refine q_when (b := false) (et_b (ed_is (ed_B0 (g := fun i j => decide (i > j)) (i := ((([] : List D).length : Nat) : Int)) (j := 0) (ed_lenL (ds := []) (ed_callP a (ar _ H (Ex.refl _) rfl rfl) ok)) ed_ci) rfl)) (fun z => by cases z) (fun _ H1 e1 => ?_)
    refine q_asgR (ed_callP a (ar _ H1 e1 rfl rfl) ok.ok) fun v3 H2 e2 hv3 => ?_
    refine q_asgR (ed_callP a (ar _ H2 (e1.trans e2) rfl rfl) ok) fun v4 H3 e3 hv4 => ?_
    have hv3' := hv3.ex e3
    have smA := lrnA_sm2 ok.ok
    have ex3 := (e1.trans e2).trans e3
    have hv4' : Dat H3 (flawD a) v4 := hv4
    have hv3'' : Dat H3 (.lst (lrnA a.Z a.t a.M)) v3 := hv3'
    unfold flawD at hv4'
    generalize lrnA a.Z a.t a.M = L at *
    cases L with
    | nil =>
      refine q_when (b := true) (et_b (ed_is (ed_eqI (i := ((([] : List D).length : Nat) : Int)) (j := 0) (ed_lenL (ed_var rfl hv3'')) ed_ci) rfl)) (fun _ H4 e4 => ?_) (fun z => by cases z)
      cases (show v4 = V.non from hv4')
      exact s_retB (b := decide (V.non = V.non)) (ed_isN (ev_var rfl)) fun H5 e5 => k _ H5 (ex3.trans (e4.trans e5)) (by
        show V.bl (decide (V.non = V.non)) = V.bl true
        simp)
    | cons d L =>
      refine q_when (b := false) (et_b (ed_is (ed_eqI (i := (((d :: L).length : Nat) : Int)) (j := 0) (ed_lenL (ed_var rfl hv3'')) ed_ci) (by
        rw [decide_eq_false]
        simp only [List.length_cons]
        omega))) (fun z => by cases z) (fun _ H4 e4 => ?_)
      have e3 : sp_same 3 = spP (fun d : D => [d, d]) (fun d => D.sm 2 d = true) (fun _ => D.bl true) := rfl
      rw [e3]
      exact s_retD (ed_callP (args := fun d : D => [d, d]) (pre := fun d => D.sm 2 d = true) (res := fun _ => D.bl true) d (eda_cons (ed_var rfl (hv4'.ex e4)) (eda_cons (ed_ixL (j := 0) (ed_var rfl (hv3''.ex e4)) ed_ci rfl rfl) eda_nil)) (smA d List.mem_cons_self)) fun v H5 e5 hv => k v H5 (ex3.trans (e4.trans e5)) hv
end
end JH
set_option Elab.async false
set_option maxRecDepth 100000
set_option maxHeartbeats 4000000
/-! the hand that draws are taken from -/
namespace JH
open PySem PySem.Spec PyProof.Rows L2 Evl
def HandAt (p l : Addr) (H : Hp) : Prop := p ≠ l ∧ (∃ at_ : Int, 0 ≤ at_ ∧ H p = some (.lst [.ref l, .int at_])) ∧ ∃ ms : List Int, H l = some (.lst (ms.map .int))
structure W (p l : Addr) (H H' : Hp) : Prop where
  h0 : HandAt p l H
  h1 : HandAt p l H'
  ex : ExB p H H'
theorem HandAt.ex {p l : Addr} {H H' : Hp} (h : HandAt p l H) (e : Ex H H') : HandAt p l H' := by
  obtain ⟨h1, ⟨a, h2, h3⟩, ms, h4⟩ := h
  exact ⟨h1, ⟨a, h2, e _ _ h3⟩, ms, e _ _ h4⟩
theorem HandAt.some {p l : Addr} {H : Hp} (h : HandAt p l H) : ∃ xs, H p = some (.lst xs) := by
  obtain ⟨h1, ⟨a, h2, h3⟩, ms, h4⟩ := h
  exact ⟨_, h3⟩
/-- a write to another place -/
theorem HandAt.upd {p l q : Addr} {H : Hp} {o : HO} (h : HandAt p l H) (hp : q ≠ p) (hl : q ≠ l) : HandAt p l (L2.upd H q o) := by
  obtain ⟨h1, ⟨a, h2, h3⟩, ms, h4⟩ := h
  exact ⟨h1, ⟨a, h2, by rw [upd_ne (fun z => hp z.symm)]; exact h3⟩, ms, by rw [upd_ne (fun z => hl z.symm)]; exact h4⟩
theorem HandAt.fresh {p l q : Addr} {H : Hp} (h : HandAt p l H) (hq : H q = none) : q ≠ p ∧ q ≠ l := by
  obtain ⟨h1, ⟨a, h2, h3⟩, ms, h4⟩ := h
  exact ⟨(fun z => by rw [z, h3] at hq; cases hq), (fun z => by rw [z, h4] at hq; cases hq)⟩
theorem W.refl {p l : Addr} {H : Hp} (h : HandAt p l H) : W p l H H := ⟨h, h, ExB.refl _ _⟩
theorem W.of {p l : Addr} {H H' : Hp} (h : HandAt p l H) (e : Ex H H') : W p l H H' := ⟨h, h.ex e, ExB.of e⟩
theorem W.trans {p l : Addr} {H H1 H2 : Hp} (a : W p l H H1) (b : W p l H1 H2) : W p l H H2 := ⟨a.h0, b.h1, a.ex.trans b.ex⟩
theorem W.te {p l : Addr} {H H' : Hp} (w : W p l H H') : TE H H' := by
  obtain ⟨xs, h⟩ := w.h0.some
  exact w.ex.toTE h
/-- what was not there stays apart from the hand -/
theorem W.back {p l q : Addr} {H H' : Hp} (w : W p l H H') (h : H' q = none) : H q = none := by
  cases e : H q with
  | none => rfl
  | some o =>
    have hq : q ≠ p := fun z => by
      obtain ⟨xs, hx⟩ := w.h1.some
      rw [z, hx] at h
      cases h
    rw [w.ex q o hq e] at h
    cases h
/-- a place that was new is written -/
theorem W.mut {p l q : Addr} {H H' : Hp} {o : HO} (w : W p l H H') (h : H q = none) : W p l H (L2.upd H' q o) :=
  have f := w.h0.fresh h
  ⟨w.h0, w.h1.upd f.1 f.2, fun a u n e => by rw [upd_ne (ne_of_none e h)]; exact w.ex a u n e⟩
def EvH (p l : Addr) (te : L2.TE) (σ : L2.St) (H : Hp) (R : Hp → V → Prop) : Prop := ∀ H1, W p l H H1 → ∀ Q : VK, (∀ v H2, W p l H1 H2 → R H2 v → Q v H2) → te σ H1 Q
abbrev EvHD (p l : Addr) (te : L2.TE) (σ : L2.St) (H : Hp) (C : D → Prop) : Prop := EvH p l te σ H fun H v => ∃ d, C d ∧ Dat H d v
def EvHN (p l : Addr) (te : L2.TE) (σ : L2.St) (H : Hp) (n : Nat) (C : D → Prop) : Prop := ∀ H1, W p l H H1 → ∀ Q : VK, (∀ q ws ds H2, H1 q = none → W p l H1 H2 → H2 q = some (.lst ws) → DatL H2 ds ws → ds.length = n → (∀ d ∈ ds, C d) → Q (.ref q) H2) → te σ H1 Q
theorem TL_all {C : D → Prop} (hT : ∀ d, C d → d.T = true) : ∀ {ds : List D}, (∀ d ∈ ds, C d) → D.TL ds = true
  | [], _ => rfl
  | d :: ds, h => by
    have h1 := hT d (h d List.mem_cons_self)
    have h2 := TL_all hT (ds := ds) fun e he => h e (List.mem_cons_of_mem _ he)
    simp [D.TL, h1, h2]
theorem choose_map {α : Type} {f : α → D} {C : α → Prop} : ∀ {ds : List D}, (∀ d ∈ ds, ∃ a, d = f a ∧ C a) → ∃ l : List α, ds = l.map f ∧ ∀ a ∈ l, C a
  | [], _ => ⟨[], rfl, fun a h => by cases h⟩
  | d :: ds, h => by
    obtain ⟨a, e, c⟩ := h d List.mem_cons_self
    obtain ⟨l, e2, c2⟩ := choose_map (ds := ds) fun x hx => h x (List.mem_cons_of_mem _ hx)
    refine ⟨a :: l, by rw [e, e2]; rfl, fun x hx => ?_⟩
    rcases List.mem_cons.mp hx with z | z
    · rw [z]; exact c
    · exact c2 x z
section
variable {K : PySem.W.Frag} {p l : Addr} {σ : L2.St} {H H' : Hp} {ta tb tl te : L2.TE} {DD : Ends} {tu tz : TS} {g : TG} {vs : List Nat} {j : Nat} {t : TT} {b : Bool}
theorem EvH.of {R : Hp → V → Prop} (h : ∀ H1, W p l H H1 → EvR te σ H1 R) : EvH p l te σ H R := fun H1 w Q q => h H1 w H1 (Ex.refl _) Q fun v H2 e r => q v H2 (W.of w.h1 e) r
theorem eh_lc {C : D → Prop} {n : Nat} (hT : ∀ d, C d → d.T = true) (h : ∀ H1, W p l H H1 → EvD tl σ H1 (.int n)) (hn : n ≤ 1000) (hw : ∀ x, wipe ((wipe σ vs).set j (some x)) vs = wipe σ vs)
    (he : ∀ i, i < n → EvHD p l te ((wipe σ vs).set j (some (.int (i : Int)))) H C) : EvHN p l (tLc (iRng1 (tCons tl tNil)) (gName j) tYes te vs) σ H n C := fun H0 w0 Q q =>
  ev_i (h H0 w0) H0 (Ex.refl _) _ fun H1 e1 => ⟨n, rfl, by omega, by omega, fun Dl hD => by
    have w1 : W p l H0 H1 := W.of w0.h1 e1
    have fD := w1.h1.fresh hD
    refine lc_range (lo := 0) (n := (n : Int).toNat) (fun i H' => W p l H1 H' ∧ ∃ ws ds, H' Dl = some (.lst ws) ∧ DatL H' ds ws ∧ ds.length = i ∧ ∀ d ∈ ds, C d) ⟨W.of w1.h1 (Ex.new hD), [], [], upd_same, rfl, rfl, fun d z => by cases z⟩ (fun i H' hi p' => ?_) (fun H' p' => ?_)
    · have e00 : (0 : Int) + (i : Int) = (i : Int) := Int.zero_add _
      have hi' : i < n := by omega
      rw [e00]
      obtain ⟨p1, ws, ds, p2, p3, p4, p5⟩ := p'
      refine ⟨hw _, ?_⟩
      simp only [tYes, ↓reduceIte]
      refine he i hi' H' ((w0.trans w1).trans p1) _ fun y H4 w4 ⟨d, cd, hd⟩ => ?_
      have h4 := w4.ex Dl _ fD.1 p2
      refine ⟨ws, h4, sz_lt (by rw [p3.length]; omega), (p1.trans w4).mut hD, ws ++ [y], ds ++ [d], upd_same, ?_, by rw [List.length_append, p4]; rfl, fun x hx => ?_⟩
      · have te4 : TE H4 (upd H4 Dl (.lst (ws ++ [y]))) := TE.upd h4
        exact (p3.te (w4.te.trans te4) (TL_all hT p5)).snoc (hd.te te4 (hT d cd))
      · rcases List.mem_append.mp hx with hx | hx
        · exact p5 x hx
        · rw [List.mem_singleton.mp hx]; exact cd
    · obtain ⟨p1, ws, ds, p2, p3, p4, p5⟩ := p'
      exact q Dl ws ds H' (fresh_back e1 hD) (w1.trans p1) p2 p3 (by simpa using p4) p5⟩
theorem eh_tupleN {n : Nat} {C : D → Prop} (h : EvHN p l te σ H n C) : EvHD p l (tCB (rTupleOf K) (tCons te tNil)) σ H fun d => ∃ ds, d = .tup ds ∧ ds.length = n ∧ ∀ d ∈ ds, C d := fun H1 w Q q =>
  h H1 w _ fun a ws ds H2 _ w2 h2 d2 hl hc => ⟨a, ws, rfl, .inl ⟨SqL.of h2, fun r hr => q _ _ (w2.trans (W.of w2.h1 (Ex.new hr))) ⟨.tup ds, ⟨ds, rfl, hl, hc⟩, Dat.tup upd_same (d2.ex (Ex.new hr))⟩⟩⟩
theorem EvH.imp {R R' : Hp → V → Prop} (h : EvH p l te σ H R) (k : ∀ H v, R H v → R' H v) : EvH p l te σ H R' := fun H1 w Q q => h H1 w Q fun v H2 w2 r => q v H2 w2 (k H2 v r)
theorem EvH.mono {R : Hp → V → Prop} (w : W p l H H') (h : EvH p l te σ H R) : EvH p l te σ H' R := fun H1 w1 Q q => h H1 (w.trans w1) Q q
theorem q_asgH {i : Nat} {R : Hp → V → Prop} (hh : HandAt p l H) (h : EvH p l te σ H R) (k : ∀ v H1, W p l H H1 → R H1 v → tz DD (σ.set i (some v)) H1) : tSeq (tAsg te (gName i)) tz DD σ H := h H (W.refl hh) _ fun v H1 w r => k v H1 w r
theorem s_retH {R : Hp → V → Prop} (hh : HandAt p l H) (h : EvH p l te σ H R) (k : ∀ v H1, W p l H H1 → R H1 v → DD.rt v H1) : tRet te DD σ H := h H (W.refl hh) _ fun v H1 w r => k v H1 w r
theorem q_asgHN {n i : Nat} {C : D → Prop} (hh : HandAt p l H) (h : EvHN p l te σ H n C) (k : ∀ q ws ds H1, H q = none → W p l H H1 → H1 q = some (.lst ws) → DatL H1 ds ws → ds.length = n → (∀ d ∈ ds, C d) → tz DD (σ.set i (some (.ref q))) H1) : tSeq (tAsg te (gName i)) tz DD σ H := h H (W.refl hh) _ fun q ws ds H1 q0 w h1 h2 h3 h4 => k q ws ds H1 q0 w h1 h2 h3 h4
theorem q_whenM (Mid : L2.St → Hp → Prop) (h : EvT t σ H b) (h1 : b = true → ∀ H1, Ex H H1 → ∀ N : L2.St → Hp → Prop, (∀ σ' H', Mid σ' H' → N σ' H') → tu { DD with nx := N } σ H1) (h2 : b = false → ∀ H1, Ex H H1 → Mid σ H1) (k : ∀ σ' H', Mid σ' H' → tz DD σ' H') : tSeq (tIfS t tu tNext) tz DD σ H :=
  q_when h (fun e H1 x => h1 e H1 x _ k) (fun e H1 x => k _ _ (h2 e H1 x))
end
def sp_take : Sp := fun vs H Q _ => ∃ (p l : Addr) (m : Nat), vs = [.ref p, .int m] ∧ HandAt p l H ∧ 0 < m ∧ ∀ (i : Nat) H', W p l H H' → i < m → Q (.int i) H'
/-- whole numbers from 0 below m, n rows of k -/
def MatB (n k m : Nat) (M : List (List Int)) : Prop := Sh n k M ∧ ∀ r ∈ M, ∀ b ∈ r, 0 ≤ b ∧ b < m
def sp_bits : Sp := fun vs H Q _ => ∃ (p l : Addr) (n k m : Nat), vs = [.ref p, .int n, .int k, .int m] ∧ HandAt p l H ∧ 0 < m ∧ n ≤ 10 ∧ k ≤ 10 ∧ ∀ M v H', W p l H H' → MatB n k m M → Dat H' (mat M) v → Q v H'
def sp_easy : Sp := fun vs H Q _ => ∃ (p l : Addr) (X Y : Nat) (v2 : V), vs = [.ref p, v2] ∧ HandAt p l H ∧ Dat H (pairD X Y) v2 ∧ X ≤ 4 ∧ Y ≤ 4 ∧ ∀ M v H', W p l H H' → Sh X Y M → Dat H' (mat M) v → Q v H'
def sp_draws (K : PySem.W.Frag) : Sp := fun vs H Q _ => ∃ (a : Addr) (ns : List Int), vs = [.ref a, .int 2500] ∧ SqL K H a (ns.map V.int) ∧ ns.length ≤ 1000 ∧ ∀ q H' (ms : List Int), H q = none → Ex H H' → H' q = some (.lst (ms.map .int)) → Q (.ref q) H'
section
variable {P : Program} {w : World} {K : PySem.W.Frag} {mg : Str → Option Value} {base : Heap} {C : Addr}
abbrev K_law_take (P : Program) (w : World) (K : PySem.W.Frag) (mg : Str → Option Value) (base : Heap) : Prop := Fk P w K mg base "_law_take" ["_law_hand", "_law_many"] 1 sp_take
theorem sc_law_take : FnScope ["_law_hand", "_law_many", "_law_at", "_law_draws_here"] ["_law_hand", "_law_many"] (defScope s_law_take) := ⟨rfl, rfl, rfl, by decide +kernel, rfl, by decide +kernel, by decide +kernel⟩
theorem ok_law_take {f : Addr} {fd : FuncData} (F : FnP K "_law_take" "_law_take" s_law_take f fd) (T : Txt mg)  : FnOk P w K mg base CX0 1 f fd ["_law_hand", "_law_many"] (sp_take) := by
  refine FunD.ok F sc_law_take (fun vs H Q E h => ?_) (fun cdv A outer s H vs Q E hr h => ?_)
  · obtain ⟨p, l, m, rfl, _⟩ := h
    rfl
  · obtain ⟨p, l, m, rfl, hh, m0, k⟩ := h
    have hh' := hh
    obtain ⟨npl, ⟨a, a0, hp⟩, ms, hl⟩ := hh
    refine ⟨_, PSs.nox (pss_cons (psv 2 sc_law_take.nd (pe_ix (k_ixL (K := K)) (pv 0) pe_int (fun _ _ => rfl)))
    (pss_cons (ps_asg (pe_op op_add (pv 2) pe_int) (pg_sub (pv 0) pe_int set_list))
    (pss_cons (psv 3 sc_law_take.nd (pe_ix (k_ixL (K := K)) (pv 0) pe_int (fun _ _ => rfl)))
    (pss_cons (ps_if (pt_cmpR op_ge (pv 2) (pe_callB (k_len (K := K)) (by rfl) T.len bt_len (pa_cons (pv 3) pa_nil)) (nomark _))
    (pss_one (ps_ret pe_int))
    pss_nil)
    (pss_one (ps_ret (pe_op op_mod (pe_op op_fdiv (pe_callTy call_int1 (by rfl) T.int bt_int (pa_cons (pe_ix (k_ixL (K := K)) (pv 3) (pv 2) (fun _ _ => rfl)) pa_nil)) pe_int) (pv 1)))))))), ?_⟩
    refine q_asg (v := .int a) (ev_op (ev_var rfl) ev_c (rv_ixL (sq_of hp) rfl)) fun H1 e1 => ?_
    refine q_setL (xs := [.ref l, .int a]) (j := 1) (v := .int (a + 1)) (e1 _ _ hp) (ev_op (ev_var rfl) ev_c rv_I0) (ev_var rfl) ev_c (by simp) fun H2 e2 => ?_
    have e12 := e1.trans e2
    have hh2 := hh'.ex e12
    have hp3 : (upd H2 p (.lst ([V.ref l, .int a].set 1 (.int (a + 1))))) p = some (.lst [.ref l, .int (a + 1)]) := upd_same
    have hl3 : (upd H2 p (.lst ([V.ref l, .int a].set 1 (.int (a + 1))))) l = some (.lst (ms.map .int)) := by rw [upd_ne (fun z => npl z.symm)]; exact e12 _ _ hl
    have w3 : W p l H (upd H2 p (.lst ([V.ref l, .int a].set 1 (.int (a + 1))))) := ⟨hh', ⟨npl, ⟨a + 1, by omega, hp3⟩, ms, hl3⟩, (ExB.of e12).trans ExB.upd⟩
    generalize upd H2 p (.lst ([V.ref l, .int a].set 1 (.int (a + 1)))) = H3 at *
    refine q_asg (v := .ref l) (ev_op (ev_var rfl) ev_c (rv_ixL (sq_of hp3) rfl)) fun H4 e4 => ?_
    have hl4 := e4 _ _ hl3
    have w4 : W p l H H4 := w3.trans (W.of w3.h1 e4)
    refine q_when (b := decide (a ≥ ((ms.map V.int).length : Int))) (et_b (ed_B0 (g := fun i j => decide (i ≥ j)) (ed_var (d := .int a) rfl rfl) (ed_i (ev_len (ev_var rfl) (sq_of hl4))))) (fun _ H5 e5 => ?_) (fun hb H5 e5 => ?_)
    · exact s_ret ev_c fun H6 e6 => k 0 H6 (w4.trans (W.of w4.h1 (e5.trans e6))) m0
    · have hb := of_decide_eq_false hb
      have hlt : a.toNat < ms.length := by
        rw [List.length_map] at hb
        omega
      have hg : (ms.map V.int)[a.toNat]? = some (.int ms[a.toNat]) := by rw [List.getElem?_map, List.getElem?_eq_getElem hlt]; rfl
      have ea : a = ((a.toNat : Nat) : Int) := by omega
      refine s_ret (v := .int (ms[a.toNat] / 7 % (m : Int))) (ev_op (ev_op (ev_i (ed_int (ed_i (ev_op (ev_var rfl) (ev_var rfl) (rv_ixL (sq_of (e5 _ _ hl4)) (at_get ea hg)))))) ev_c (rv_I ⟨by decide, by decide⟩)) (ev_var rfl) (rv_I (by omega))) fun H6 e6 => ?_
      have h1 := Int.emod_nonneg (ms[a.toNat] / 7) (b := (m : Int)) (by omega)
      have h2 := Int.emod_lt_of_pos (ms[a.toNat] / 7) (b := (m : Int)) (by omega)
      generalize ms[a.toNat] / 7 % (m : Int) = r at *
      have er : r = ((r.toNat : Nat) : Int) := by omega
      rw [er]
      exact k r.toNat H6 (w4.trans (W.of w4.h1 (e5.trans e6))) (by omega)
def Cint (m : Nat) (d : D) : Prop := ∃ i : Int, d = .int i ∧ 0 ≤ i ∧ i < m
def Crow (c m : Nat) (d : D) : Prop := ∃ r : List Int, d = .tup (r.map .int) ∧ r.length = c ∧ ∀ b ∈ r, 0 ≤ b ∧ b < m
theorem Cint.T {m : Nat} {d : D} (h : Cint m d) : d.T = true := by
  obtain ⟨i, rfl, _⟩ := h
  rfl
theorem Crow.T {c m : Nat} {d : D} (h : Crow c m d) : d.T = true := by
  obtain ⟨r, rfl, _⟩ := h
  exact TL_ints r
theorem crow {c m : Nat} {d : D} {ds : List D} (e : d = .tup ds) (hl : ds.length = c) (hd : ∀ d ∈ ds, Cint m d) : Crow c m d := by
  obtain ⟨r, rfl, hr⟩ := choose_map (f := D.int) (C := fun i : Int => 0 ≤ i ∧ i < m) hd
  rw [List.length_map] at hl
  exact ⟨r, e, hl, hr⟩
theorem eh_take {p l : Addr} {σ : L2.St} {H : Hp} {tb : L2.TE} {i m : Nat} (h0 : σ[i]? = some (some (.ref p))) (hb : ∀ H1, W p l H H1 → EvD tb σ H1 (.int m)) (m0 : 0 < m) : EvHD p l (tCall sp_take [] E0 (tCons (tVar i) (tCons tb tNil))) σ H (Cint m) := fun H1 w Q q =>
  ⟨_, h0, ev_i (hb H1 w) H1 (Ex.refl _) _ fun H2 e2 => ⟨p, l, m, rfl, w.h1.ex e2, m0, fun i H3 w3 hi => q _ H3 ((W.of w.h1 e2).trans w3) ⟨.int i, ⟨i, rfl, by omega, by omega⟩, rfl⟩⟩⟩
abbrev K_law_table (P : Program) (w : World) (K : PySem.W.Frag) (mg : Str → Option Value) (base : Heap) : Prop := Fk P w K mg base "_law_table" ["_law_hand", "_law_rows", "_law_columns", "_law_answers"] 2 sp_bits
theorem sc_law_table : FnScope ["_law_hand", "_law_rows", "_law_columns", "_law_answers", "_law_y", "_law_x"] ["_law_hand", "_law_rows", "_law_columns", "_law_answers"] (defScope s_law_table) := ⟨rfl, rfl, rfl, by decide +kernel, rfl, by decide +kernel, by decide +kernel⟩
theorem ok_law_table {f : Addr} {fd : FuncData} (F : FnP K "_law_table" "_law_table" s_law_table f fd) (T : Txt mg) (c_law_take : K_law_take P w K mg base) : FnOk P w K mg base CX0 2 f fd ["_law_hand", "_law_rows", "_law_columns", "_law_answers"] (sp_bits) := by
  refine FunD.ok F sc_law_table (fun vs H Q E h => ?_) (fun cdv A outer s H vs Q E hr h => ?_)
  · obtain ⟨p, l, n, k', m, rfl, _⟩ := h
    rfl
  · obtain ⟨p, l, n, c, m, rfl, hh, m0, hn, hc, k⟩ := h
    refine ⟨_, PSs.nox (pss_one (ps_ret (pe_callTy (k_tuple (K := K)) (by rfl) T.tuple bt_tuple (pa_cons (pe_lc (own := [("_law_x", 5)]) (by rfl) sc_law_table.nd (pi_range1 (by rfl) T.range (pa_cons (pv 1) pa_nil)) (blkOk_by (by kernel_rfl)) (fun _ _ _ _ _ => (pgv 5 sc_law_table.nd)) (fun _ _ _ _ _ => pts_nil) (fun _ _ _ _ _ => (pe_callTy (k_tuple (K := K)) (by rfl) T.tuple bt_tuple (pa_cons (pe_lc (own := [("_law_y", 4)]) (by rfl) sc_law_table.nd (pi_range1 (by rfl) T.range (pa_cons (pv 2) pa_nil)) (blkOk_by (by kernel_rfl)) (fun _ _ _ _ _ => (pgv 4 sc_law_table.nd)) (fun _ _ _ _ _ => pts_nil) (fun _ _ _ _ _ => (pe_callF c_law_take hr (by first | decide | omega) (pa_cons (pv 0) (pa_cons (pv 3) pa_nil))))) pa_nil)))) pa_nil)))), ?_⟩
    refine s_retH hh (eh_tupleN (eh_lc (C := Crow c m) (fun d h => h.T) (n := n) (fun H1 _ => ed_var rfl rfl) (by omega) (fun _ => rfl) (fun i hi => EvH.imp (eh_tupleN (eh_lc (C := Cint m) (fun d h => h.T) (n := c) (fun H1 _ => ed_var rfl rfl) (by omega) (fun _ => rfl) (fun j hj => eh_take rfl (fun H1 _ => ed_var rfl rfl) m0))) (fun H v ⟨d, ⟨ds, e, hl, hd⟩, hv⟩ => ⟨d, crow e hl hd, hv⟩)))) fun v H1 w1 ⟨d, ⟨ds, e, hl, hd⟩, hv⟩ => ?_
    obtain ⟨M, rfl, hM⟩ := choose_map (f := fun r => D.tup (r.map D.int)) (C := fun r : List Int => r.length = c ∧ ∀ b ∈ r, 0 ≤ b ∧ b < m) hd
    subst e
    rw [List.length_map] at hl
    exact k M v H1 w1 ⟨⟨hl, fun r hr => (hM r hr).1⟩, fun r hr => (hM r hr).2⟩ hv
abbrev K_law_bits (P : Program) (w : World) (K : PySem.W.Frag) (mg : Str → Option Value) (base : Heap) : Prop := Fk P w K mg base "_law_bits" ["_law_hand", "_law_inputs_here", "_law_coins", "_law_most"] 2 sp_bits
theorem sc_law_bits : FnScope ["_law_hand", "_law_inputs_here", "_law_coins", "_law_most", "_law_r", "_law_x"] ["_law_hand", "_law_inputs_here", "_law_coins", "_law_most"] (defScope s_law_bits) := ⟨rfl, rfl, rfl, by decide +kernel, rfl, by decide +kernel, by decide +kernel⟩
theorem ok_law_bits {f : Addr} {fd : FuncData} (F : FnP K "_law_bits" "_law_bits" s_law_bits f fd) (T : Txt mg) (c_law_take : K_law_take P w K mg base) : FnOk P w K mg base CX0 2 f fd ["_law_hand", "_law_inputs_here", "_law_coins", "_law_most"] (sp_bits) := by
  refine FunD.ok F sc_law_bits (fun vs H Q E h => ?_) (fun cdv A outer s H vs Q E hr h => ?_)
  · obtain ⟨p, l, n, k', m, rfl, _⟩ := h
    rfl
  · obtain ⟨p, l, n, c, m, rfl, hh, m0, hn, hc, k⟩ := h
    refine ⟨_, PSs.nox (pss_one (ps_ret (pe_callTy (k_tuple (K := K)) (by rfl) T.tuple bt_tuple (pa_cons (pe_lc (own := [("_law_x", 5)]) (by rfl) sc_law_bits.nd (pi_range1 (by rfl) T.range (pa_cons (pv 1) pa_nil)) (blkOk_by (by kernel_rfl)) (fun _ _ _ _ _ => (pgv 5 sc_law_bits.nd)) (fun _ _ _ _ _ => pts_nil) (fun _ _ _ _ _ => (pe_callTy (k_tuple (K := K)) (by rfl) T.tuple bt_tuple (pa_cons (pe_lc (own := [("_law_r", 4)]) (by rfl) sc_law_bits.nd (pi_range1 (by rfl) T.range (pa_cons (pv 2) pa_nil)) (blkOk_by (by kernel_rfl)) (fun _ _ _ _ _ => (pgv 4 sc_law_bits.nd)) (fun _ _ _ _ _ => pts_nil) (fun _ _ _ _ _ => (pe_callF c_law_take hr (by first | decide | omega) (pa_cons (pv 0) (pa_cons (pv 3) pa_nil))))) pa_nil)))) pa_nil)))), ?_⟩
    refine s_retH hh (eh_tupleN (eh_lc (C := Crow c m) (fun d h => h.T) (n := n) (fun H1 _ => ed_var rfl rfl) (by omega) (fun _ => rfl) (fun i hi => EvH.imp (eh_tupleN (eh_lc (C := Cint m) (fun d h => h.T) (n := c) (fun H1 _ => ed_var rfl rfl) (by omega) (fun _ => rfl) (fun j hj => eh_take rfl (fun H1 _ => ed_var rfl rfl) m0))) (fun H v ⟨d, ⟨ds, e, hl, hd⟩, hv⟩ => ⟨d, crow e hl hd, hv⟩)))) fun v H1 w1 ⟨d, ⟨ds, e, hl, hd⟩, hv⟩ => ?_
    obtain ⟨M, rfl, hM⟩ := choose_map (f := fun r => D.tup (r.map D.int)) (C := fun r : List Int => r.length = c ∧ ∀ b ∈ r, 0 ≤ b ∧ b < m) hd
    subst e
    rw [List.length_map] at hl
    exact k M v H1 w1 ⟨⟨hl, fun r hr => (hM r hr).1⟩, fun r hr => (hM r hr).2⟩ hv
abbrev K_law_easy_table (P : Program) (w : World) (K : PySem.W.Frag) (mg : Str → Option Value) (base : Heap) : Prop := Fk P w K mg base "_law_easy_table" ["_law_hand", "_law_sizes"] 2 sp_easy
theorem sc_law_easy_table : FnScope ["_law_hand", "_law_sizes", "_law_rows", "_law_x", "_law_table_here", "_law_y"] ["_law_hand", "_law_sizes"] (defScope s_law_easy_table) := ⟨rfl, rfl, rfl, by decide +kernel, rfl, by decide +kernel, by decide +kernel⟩
theorem ok_law_easy_table {f : Addr} {fd : FuncData} (F : FnP K "_law_easy_table" "_law_easy_table" s_law_easy_table f fd) (T : Txt mg) (c_law_take : K_law_take P w K mg base) : FnOk P w K mg base CX0 2 f fd ["_law_hand", "_law_sizes"] (sp_easy) := by
  refine FunD.ok F sc_law_easy_table (fun vs H Q E h => ?_) (fun cdv A outer s H vs Q E hr h => ?_)
  · obtain ⟨p, l, X, Y, v2, rfl, _⟩ := h
    rfl
  · obtain ⟨p, l, X, Y, v2, rfl, hh, h2, hX, hY, k⟩ := h
    refine ⟨_, PSs.nox (pss_cons (psv 2 sc_law_easy_table.nd (pe_lc (own := [("_law_x", 3)]) (by rfl) sc_law_easy_table.nd (pi_range1 (by rfl) T.range (pa_cons (pe_ix (k_ixT (K := K)) (pv 1) pe_int (fun _ _ => rfl)) pa_nil)) (blkOk_by (by kernel_rfl)) (fun _ _ _ _ _ => (pgv 3 sc_law_easy_table.nd)) (fun _ _ _ _ _ => pts_nil) (fun _ _ _ _ _ => (pe_callF c_law_take hr (by first | decide | omega) (pa_cons (pv 0) (pa_cons pe_int pa_nil))))))
    (pss_cons (psv 4 sc_law_easy_table.nd (pe_lst pa_nil))
    (pss_cons (ps_for PassesOwn.never (by rfl) (pi_range1 (by rfl) T.range (pa_cons (pe_ix (k_ixT (K := K)) (pv 1) pe_int (fun _ _ => rfl)) pa_nil)) (pgv 3 sc_law_easy_table.nd)
    (pss_one (ps_expr (k_append (K := K) (pv 4) (pa_cons (pe_callTy (k_tuple (K := K)) (by rfl) T.tuple bt_tuple (pa_cons (pe_lc (own := [("_law_y", 5)]) (by rfl) sc_law_easy_table.nd (pi_range1 (by rfl) T.range (pa_cons (pe_ix (k_ixT (K := K)) (pv 1) pe_int (fun _ _ => rfl)) pa_nil)) (blkOk_by (by kernel_rfl)) (fun _ _ _ _ _ => (pgv 5 sc_law_easy_table.nd)) (fun _ _ _ _ _ => pts_nil) (fun _ _ _ _ _ => (pe_op op_add (pe_op op_mul (pe_ix (k_ixL (K := K)) (pv 2) (pv 3) (fun _ _ => rfl)) pe_int) (pe_callTy call_int1 (by rfl) T.int bt_int (pa_cons (pe_cmpR op_gt (pe_op op_mul (pv 5) (pe_ix (k_ixL (K := K)) (pv 2) (pv 3) (fun _ _ => rfl))) pe_int (nomark _)) pa_nil))))) pa_nil)) pa_nil)))))
    (pss_one (ps_ret (pe_callTy (k_tuple (K := K)) (by rfl) T.tuple bt_tuple (pa_cons (pv 4) pa_nil))))))), ?_⟩
    have h2' : Dat H (.tup [.int X, .int Y]) v2 := h2
    refine q_asgHN hh (eh_lc (C := Cint 3) (fun d h => h.T) (n := X) (fun H1 w1 => ed_ixT (j := 0) (ed_var rfl (h2'.te w1.te rfl)) ed_ci rfl rfl) (by omega) (fun _ => rfl) (fun i hi => eh_take (m := 3) rfl (fun H1 _ => ed_ci) (by decide))) fun q ws ds H1 q0 w1 hq hws hl hc => ?_
    obtain ⟨rs, rfl, hrs⟩ := choose_map (f := D.int) (C := fun i : Int => 0 ≤ i ∧ i < 3) hc
    rw [List.length_map] at hl
    refine q_asgN (ds := []) (en_lst eda_nil (by simp)) fun t ts H2 t0 e2 ht hts => ?_
    have ets : ts = [] := hts
    subst ets
    have h22 := (h2'.te w1.te rfl).ex e2
    let row : Nat → List Int := fun x => (List.range Y).map fun y : Nat => rs.getD x 0 * 4 + (if decide ((y : Int) * rs.getD x 0 > 2) then 1 else 0)
    refine q_forR (n := X) (ed_ixT (j := 0) (ed_var rfl h22) ed_ci rfl rfl) (by omega) (fun i σ' H' => Ex H1 H' ∧ ∃ (o3 : Option V) (ts : List V), σ' = [some (.ref p), some v2, some (.ref q), o3, some (.ref t), none] ∧ H' t = some (.lst ts) ∧ DatL H' ((List.range i).map fun x => D.tup ((row x).map D.int)) ts) (fun H3 e3 => ⟨e2.trans e3, none, [], rfl, e3 _ _ ht, rfl⟩) ?_ ?_
    · rintro x σ' H' hx ⟨ex, o3, ts, rfl, ht', hts'⟩
      have hxr : (rs.map D.int)[x]? = some (.int (rs.getD x 0)) := by
        have hlt : x < rs.length := by omega
        rw [List.getElem?_map, List.getD_eq_getElem?_getD, List.getElem?_eq_getElem hlt]; rfl
      have hrr : 0 ≤ rs.getD x 0 ∧ rs.getD x 0 < 3 := by
        have hlt : x < rs.length := by omega
        rw [List.getD_eq_getElem?_getD, List.getElem?_eq_getElem hlt]
        exact hrs _ (List.getElem_mem hlt)
      have lts := hts'.length
      rw [List.length_map, List.length_range] at lts
      have hq' : Dat H' (.lst (rs.map D.int)) (.ref q) := (Dat.lst hq hws).ex ex
      refine s_appR ht' (ev_var rfl) (ed_tupleL (EvN.toD (er_lcR (f := fun y => D.int (rs.getD x 0 * 4 + (if decide ((y : Int) * rs.getD x 0 > 2) then 1 else 0))) (n := Y) (ed_ixT (j := 1) (ed_var rfl ((h2'.te w1.te rfl).ex ex)) ed_ci rfl rfl) (by omega) (fun _ => rfl) (fun _ => rfl) (fun y H3 e3 hy => ?_)))) (by omega) fun v H3 e3 hv => ?_
      · refine ed_I0 (g := fun i j => i + j) (ed_I (g := fun i j => i * j) (ed_ixL (j := x) (ed_var rfl (hq'.ex e3)) (ed_var (d := .int x) rfl rfl) rfl hxr) ed_ci (.inr ⟨by decide, by decide⟩)) (ed_intB (ed_B0 (g := fun i j => decide (i > j)) (ed_I (g := fun i j => i * j) (ed_var (d := .int y) rfl rfl) (ed_ixL (j := x) (ed_var rfl (hq'.ex e3)) (ed_var (d := .int x) rfl rfl) rfl hxr) (.inr ⟨by omega, by omega⟩)) ed_ci))
      · have ht3 := e3 _ _ ht'
        refine ⟨Ex.mut (ex.trans e3) t0, _, ts ++ [v], rfl, upd_same, ?_⟩
        have te : TE H3 (upd H3 t (.lst (ts ++ [v]))) := TE.upd ht3
        rw [range_snoc]
        refine ((hts'.ex e3).te te (TL_map (fun x => D.tup ((row x).map D.int)) (fun x => TL_ints _) _)).snoc (Dat.te te (TL_ints _) ?_)
        show Dat H3 (.tup (((List.range Y).map fun y : Nat => rs.getD x 0 * 4 + (if decide ((y : Int) * rs.getD x 0 > 2) then 1 else 0)).map D.int)) v
        rw [List.map_map]
        exact hv
    · rintro σ' H' ⟨ex, o3, ts, rfl, ht', hts'⟩
      refine s_retD (ed_tupleL (ed_var rfl (Dat.lst ht' hts'))) fun v H3 e3 hv => k ((List.range X).map row) v H3 (w1.trans (W.of w1.h1 (ex.trans e3))) ⟨by simp, fun r hr => ?_⟩ ?_
      · obtain ⟨x, _, rfl⟩ := List.mem_map.mp hr
        simp [row]
      · unfold mat
        rw [List.map_map]
        exact hv
abbrev K_law_draws (P : Program) (w : World) (K : PySem.W.Frag) (mg : Str → Option Value) (base : Heap) : Prop := Fk P w K mg base "_law_draws" ["_law_script", "_law_many"] 1 (sp_draws K)
theorem sc_law_draws : FnScope ["_law_script", "_law_many", "_law_rests", "_law_cell", "_law_draws_here", "_law_k", "_law_at", "_law_mixed"] ["_law_script", "_law_many"] (defScope s_law_draws) := ⟨rfl, rfl, rfl, by decide +kernel, rfl, by decide +kernel, by decide +kernel⟩
theorem ok_law_draws {f : Addr} {fd : FuncData} (F : FnP K "_law_draws" "_law_draws" s_law_draws f fd) (T : Txt mg)  : FnOk P w K mg base CX0 1 f fd ["_law_script", "_law_many"] (sp_draws K) := by
  refine FunD.ok F sc_law_draws (fun vs H Q E h => ?_) (fun cdv A outer s H vs Q E hr h => ?_)
  · obtain ⟨a, ns, rfl, _⟩ := h
    rfl
  · obtain ⟨a, ns, rfl, ha, hl, k⟩ := h
    refine ⟨_, PSs.nox (pss_cons (ps_setLc (i := 2) (own := [("_law_cell", 3)]) (by rfl) sc_law_draws.nd rfl rfl (sw_true rfl rfl rfl (by decide +kernel)) (k_pL (K := K) (pv 0)) (blkOk_by (by kernel_rfl)) (fun _ _ _ _ _ => (pgv 3 sc_law_draws.nd)) (fun _ _ _ _ _ => pts_nil) (fun _ _ _ _ _ => (pe_callB call_abs (by rfl) T.abs bt_abs (pa_cons (pe_callTy call_int1 (by rfl) T.int bt_int (pa_cons (pv 3) pa_nil)) pa_nil))))
    (pss_cons (psv 4 sc_law_draws.nd (pe_lst pa_nil))
    (pss_cons (ps_for PassesOwn.never (by rfl) (pi_range1 (by rfl) T.range (pa_cons (pv 1) pa_nil)) (pgv 5 sc_law_draws.nd)
    (pss_cons (psv 3 sc_law_draws.nd (pv 5))
    (pss_cons (ps_if (pt_cmpR op_gt (pe_callB (k_len (K := K)) (by rfl) T.len bt_len (pa_cons (pv 0) pa_nil)) pe_int (nomark _))
    (pss_cons (psv 6 sc_law_draws.nd (pe_op op_mod (pv 5) (pe_callB (k_len (K := K)) (by rfl) T.len bt_len (pa_cons (pv 0) pa_nil))))
    (pss_cons (psv 3 sc_law_draws.nd (pe_callTy call_int1 (by rfl) T.int bt_int (pa_cons (pe_ix (k_ixL (K := K)) (pv 0) (pv 6) (fun _ _ => rfl)) pa_nil)))
    (pss_one (ps_if (PW.pt (pw_and (pt_cmpR op_ge (pv 3) (pe_op op_pow pe_int pe_int) (nomark _)) (pw_and1 (pt_cmpR op_gt (pe_ix (k_ixL (K := K)) (pv 2) (pv 6) (fun _ _ => rfl)) pe_int (nomark _)))))
    (pss_cons (ps_expr (k_append (K := K) (pv 4) (pa_cons (pe_op op_mod (pe_callTy call_int1 (by rfl) T.int bt_int (pa_cons (pe_ix (k_ixL (K := K)) (pv 2) (pv 6) (fun _ _ => rfl)) pa_nil)) pe_int) pa_nil)))
    (pss_cons (ps_asg (pe_op op_fdiv (pe_callTy call_int1 (by rfl) T.int bt_int (pa_cons (pe_ix (k_ixL (K := K)) (pv 2) (pv 6) (fun _ _ => rfl)) pa_nil)) pe_int) (pg_sub (pv 2) (pv 6) set_list))
    (pss_one ps_continue)))
    pss_nil))))
    pss_nil)
    (pss_cons (psv 7 sc_law_draws.nd (pe_op op_mod (pe_callTy call_int1 (by rfl) T.int bt_int (pa_cons (pe_op op_add (pe_op op_add (pe_op op_mul (pv 3) pe_int) (pe_op op_mul (pv 5) pe_int)) pe_int) pa_nil)) pe_int))
    (pss_cons (psv 7 sc_law_draws.nd (pe_op op_mod (pe_callTy call_int1 (by rfl) T.int bt_int (pa_cons (pe_op op_add (pe_op op_fdiv (pe_op op_mul (pv 7) (pv 7)) pe_int) (pv 7)) pa_nil)) pe_int))
    (pss_one (ps_expr (k_append (K := K) (pv 4) (pa_cons (pe_op op_mod (pe_callTy call_int1 (by rfl) T.int bt_int (pa_cons (pe_op op_add (pe_op op_fdiv (pe_op op_mul (pv 7) (pv 7)) pe_int) (pe_op op_mul (pv 5) pe_int)) pa_nil)) pe_int) pa_nil)))))))))
    (pss_one (ps_ret (pv 4)))))), ?_⟩
    let rs : List Int := ns.map fun i => if i < 0 then -i else i
    refine ⟨_, rfl, a, rfl, ⟨_, ha⟩, fun r r0 => lc_list (xs := ns.map V.int) (fun i H' => Ex H H' ∧ H' r = some (.lst ((rs.take i).map V.int))) ⟨Ex.new r0, upd_same⟩ (fun i H' _ p => ex_l p.1 ha) (fun i x H' hi p => ?_) (fun H' p => ?_)⟩
    · obtain ⟨ex, hr'⟩ := p
      rw [List.getElem?_map] at hi
      obtain ⟨n, hn, rfl⟩ := Option.map_eq_some_iff.mp hi
      have hlt := (List.getElem?_eq_some_iff.mp hn).1
      refine ⟨rfl, ?_⟩
      simp only [tYes, ↓reduceIte]
      refine ⟨_, rfl, .inl ⟨n, rfl, n, rfl, _, hr', sz_lt (by rw [List.length_map, List.length_take]; omega), Ex.mut ex r0, ?_⟩⟩
      rw [upd_same, List.take_add_one, List.getElem?_map, hn]
      simp
    · obtain ⟨ex1, hr1⟩ := p
      have hr1' : H' r = some (.lst (rs.map V.int)) := by
        rw [List.length_map, List.take_of_length_le (by simp [rs])] at hr1
        exact hr1
      refine q_asgN (ds := []) (en_lst eda_nil (by simp)) fun d ds H2 d0 e2 hd hds => ?_
      have eds : ds = [] := hds
      subst eds
      have nrd : r ≠ d := fun z => by rw [z] at hr1'; rw [hr1'] at d0; cases d0
      have d0' : H d = none := fresh_back ex1 d0
      refine q_forR (n := 2500) (ed_var rfl rfl) (by decide) (fun i σ' H' => Ex H H' ∧ ∃ (o3 o5 o6 o7 : Option V) (rs ms : List Int), σ' = [some (.ref a), some (.int 2500), some (.ref r), o3, some (.ref d), o5, o6, o7] ∧ H' r = some (.lst (rs.map V.int)) ∧ rs.length = ns.length ∧ H' d = some (.lst (ms.map V.int)) ∧ ms.length = i) (fun H3 e3 => ⟨ex1.trans (e2.trans e3), none, none, none, none, rs, [], rfl, (e2.trans e3) _ _ hr1', by simp [rs], e3 _ _ hd, rfl⟩) ?_ ?_
      · rintro i σ' H3 hi ⟨ex, o3, o5, o6, o7, rs, ms, rfl, hr3, hrl, hd3, hml⟩
        refine q_asg (v := .int i) (ev_var rfl) fun H4 e4 => ?_
        have ex4 := ex.trans e4
        have len : ∀ H5, Ex H4 H5 → ∀ σ5 : L2.St, σ5[0]? = some (some (.ref a)) → EvD (tCB (rLenS K) (tCons (tVar 0) tNil)) σ5 H5 (.int (ns.length : Int)) := fun H5 e5 σ5 g => by
          have := ed_i (ev_len (K := K) (ev_var g) (ex_l (ex4.trans e5) ha))
          rw [List.length_map] at this
          exact this
        refine q_whenM (b := decide ((ns.length : Int) > 0)) (fun σ5 H5 => Ex H4 H5 ∧ ∃ (c : Int) (o6 : Option V), σ5 = [some (.ref a), some (.int 2500), some (.ref r), some (.int c), some (.ref d), some (.int i), o6, o7]) (et_b (ed_B0 (g := fun i j => decide (i > j)) (len H4 (Ex.refl _) _ rfl) ed_ci)) (fun hb H5 e5 N hN => ?_) (fun _ H5 e5 => ⟨e5, i, _, rfl⟩) ?_
        · have hb := of_decide_eq_true hb
          have hlen0 : 0 < ns.length := by omega
          have hat : i % ns.length < ns.length := Nat.mod_lt _ hlen0
          refine q_asg (v := .int ((i % ns.length : Nat) : Int)) (ev_i (ed_is (ed_I (g := fun i j => i % j) (ed_var (d := .int i) rfl rfl) (len H5 e5 _ rfl) (by omega)) (by norm_cast))) fun H6 e6 => ?_
          have hg : (ns.map V.int)[i % ns.length]? = some (.int ns[i % ns.length]) := by rw [List.getElem?_map, List.getElem?_eq_getElem hat]; rfl
          have e56 := e5.trans e6
          refine q_asg (v := .int ns[i % ns.length]) (ev_i (ed_int (ed_i (ev_op (ev_var rfl) (ev_var rfl) (rv_ixL (ex_l (ex4.trans e56) ha) (atI_nat hg)))))) fun H7 e7 => ?_
          have e57 := e56.trans e7
          have hat2 : i % ns.length < rs.length := by omega
          have hg2 : (rs.map V.int)[i % ns.length]? = some (.int rs[i % ns.length]) := by rw [List.getElem?_map, List.getElem?_eq_getElem hat2]; rfl
          have rest : ∀ H8, Ex H7 H8 → ∀ σ8 : L2.St, σ8[2]? = some (some (.ref r)) → σ8[6]? = some (some (.int ((i % ns.length : Nat) : Int))) → EvD (tOp (rIxL K) (tVar 2) (tVar 6)) σ8 H8 (.int rs[i % ns.length]) := fun H8 e8 σ8 g2 g6 =>
            ed_i (ev_op (ev_var g2) (ev_var g6) (rv_ixL (sq_of ((e4.trans (e57.trans e8)) _ _ hr3)) (atI_nat hg2)))
          generalize ns[i % ns.length] = cell at *
          generalize hx : rs[i % ns.length] = x at *
          refine s_when (b := decide (cell ≥ 10 ^ (18 : Int).toNat) && decide (x > 0)) (et_and (et_b (ed_B0 (g := fun i j => decide (i ≥ j)) (ed_var (d := .int cell) rfl rfl) (ed_I (g := fun i j => i ^ j.toNat) ed_ci ed_ci ⟨by decide, by decide, by decide⟩))) (fun _ => et_b (ed_B0 (g := fun i j => decide (i > j)) (rest H7 (Ex.refl _) _ rfl rfl) ed_ci))) (fun _ H8 e8 => ?_) (fun _ H8 e8 => hN _ _ ⟨e57.trans e8, cell, _, rfl⟩)
          have e48 := e57.trans e8
          have hd8 := (e4.trans e48) _ _ hd3
          have hr8 := (e4.trans e48) _ _ hr3
          refine q_app (v := .int (x % 1000003)) hd8 (ev_var rfl) (ev_i (ed_I (g := fun i j => i % j) (ed_int (rest H8 e8 _ rfl rfl)) ed_ci (by decide))) (by rw [List.length_map]; omega) fun H9 e9 => ?_
          have hd9 : (upd H9 d (.lst (ms.map V.int ++ [.int (x % 1000003)]))) d = some (.lst ((ms ++ [x % 1000003]).map V.int)) := by rw [upd_same, List.map_append]; rfl
          have hr9 : (upd H9 d (.lst (ms.map V.int ++ [.int (x % 1000003)]))) r = some (.lst (rs.map V.int)) := by rw [upd_ne nrd]; exact e9 _ _ hr8
          have ex9 : Ex H (upd H9 d (.lst (ms.map V.int ++ [.int (x % 1000003)]))) := Ex.mut ((ex4.trans e48).trans e9) d0'
          generalize upd H9 d (.lst (ms.map V.int ++ [.int (x % 1000003)])) = H10 at *
          refine q_setL (xs := rs.map V.int) (j := i % ns.length) (v := .int (x / 1000003)) hr9 (ev_i (ed_I (g := fun i j => i / j) (ed_int (ed_i (ev_op (ev_var rfl) (ev_var rfl) (rv_ixL (sq_of hr9) (atI_nat (by rw [hg2])))))) ed_ci ⟨by decide, by decide⟩)) (ev_var rfl) (ev_var rfl) (by rw [List.length_map]; exact hat2) fun H11 e11 => ?_
          have r0' : H r = none := r0
          refine ⟨Ex.mut (ex9.trans e11) r0', _, _, _, _, rs.set (i % ns.length) (x / 1000003), ms ++ [x % 1000003], rfl, ?_, by rw [List.length_set]; exact hrl, ?_, by rw [List.length_append, hml]; rfl⟩
          · rw [upd_same, List.map_set]
          · rw [upd_ne (fun z => nrd z.symm)]
            exact e11 _ _ hd9
        · rintro σ5 H5 ⟨e5, c, o6, rfl⟩
          have e45 := e4.trans e5
          have hd5 := e45 _ _ hd3
          have hr5 := e45 _ _ hr3
          refine q_asg (v := .int ((c * 48271 + (i : Int) * 69621 + 11) % 2147483647)) (ev_i (ed_I (g := fun i j => i % j) (ed_int (ed_I0 (g := fun i j => i + j) (ed_I0 (g := fun i j => i + j) (ed_I (g := fun i j => i * j) (ed_var (d := .int c) rfl rfl) ed_ci (.inr ⟨by decide, by decide⟩)) (ed_I (g := fun i j => i * j) (ed_var (d := .int i) rfl rfl) ed_ci (.inr ⟨by decide, by decide⟩))) ed_ci)) ed_ci (by decide))) fun H6 e6 => ?_
          have b1 := Int.emod_nonneg (c * 48271 + (i : Int) * 69621 + 11) (b := 2147483647) (by decide)
          have b2 := Int.emod_lt_of_pos (c * 48271 + (i : Int) * 69621 + 11) (b := 2147483647) (by decide)
          generalize (c * 48271 + (i : Int) * 69621 + 11) % 2147483647 = m1 at *
          refine q_asg (v := .int ((m1 * m1 / 4096 + m1) % 2147483629)) (ev_i (ed_I (g := fun i j => i % j) (ed_int (ed_I0 (g := fun i j => i + j) (ed_I (g := fun i j => i / j) (ed_I (g := fun i j => i * j) (ed_var (d := .int m1) rfl rfl) (ed_var (d := .int m1) rfl rfl) (.inr ⟨by omega, by omega⟩)) ed_ci ⟨by decide, by decide⟩) (ed_var (d := .int m1) rfl rfl))) ed_ci (by decide))) fun H7 e7 => ?_
          have c1 := Int.emod_nonneg (m1 * m1 / 4096 + m1) (b := 2147483629) (by decide)
          have c2 := Int.emod_lt_of_pos (m1 * m1 / 4096 + m1) (b := 2147483629) (by decide)
          generalize (m1 * m1 / 4096 + m1) % 2147483629 = m2 at *
          refine s_app (v := .int ((m2 * m2 / 4096 + (i : Int) * 7919) % 2147483629)) ((e6.trans e7) _ _ hd5) (ev_var rfl) (ev_i (ed_I (g := fun i j => i % j) (ed_int (ed_I0 (g := fun i j => i + j) (ed_I (g := fun i j => i / j) (ed_I (g := fun i j => i * j) (ed_var (d := .int m2) rfl rfl) (ed_var (d := .int m2) rfl rfl) (.inr ⟨by omega, by omega⟩)) ed_ci ⟨by decide, by decide⟩) (ed_I (g := fun i j => i * j) (ed_var (d := .int i) rfl rfl) ed_ci (.inr ⟨by decide, by decide⟩)))) ed_ci (by decide))) (by rw [List.length_map]; omega) fun H8 e8 => ?_
          refine ⟨Ex.mut ((ex.trans e45).trans (e6.trans (e7.trans e8))) d0', _, _, _, _, rs, ms ++ [(m2 * m2 / 4096 + (i : Int) * 7919) % 2147483629], rfl, ?_, hrl, ?_, by rw [List.length_append, hml]; rfl⟩
          · rw [upd_ne nrd]
            exact (e6.trans (e7.trans e8)) _ _ hr5
          · rw [upd_same, List.map_append]; rfl
      · rintro σ' H3 ⟨ex, o3, o5, o6, o7, rs, ms, rfl, hr3, hrl, hd3, hml⟩
        exact s_ret (ev_var rfl) fun H4 e4 => k d H4 ms d0' (ex.trans e4) (e4 _ _ hd3)
end
end JH
set_option Elab.async false
set_option maxRecDepth 100000
set_option maxHeartbeats 4000000
/-! the right tree: what each step keeps -/
namespace JH
open PySem L2
abbrev inpN (ps : List (Nat × Nat)) : Nat := (inpL ps).length
structure HereOk (Z : Sz) (h0 h1 : List (Nat × Nat)) : Prop where
  b0 : ∀ p ∈ h0, p.1 < Z.X ∧ p.2 < Z.c0
  b1 : ∀ p ∈ h1, p.1 < Z.Y ∧ p.2 < Z.c1
  l0 : h0.length ≤ 100
  l1 : h1.length ≤ 100
def dm (h0 h1 : List (Nat × Nat)) (depth : Nat) : Nat := depth + (inpN h0 - 1) + (inpN h1 - 1)
structure TreeOk (Z : Sz) (M : List (List Int)) (h0 h1 : List (Nat × Nat)) (depth : Nat) (t : Tr) : Prop where
  wf : t.WF Z
  dep : t.dep ≤ dm h0 h1 depth
  right : ∀ p ∈ h0, ∀ q ∈ h1, (t.run p.1 q.1 p.2 q.2).2 = (get2 M p.1 q.1, get2 M p.1 q.1)
/-- those whose bit is i -/
def bitF (B : List (List Int)) (i : Nat) (ps : List (Nat × Nat)) : List (Nat × Nat) := ps.filter fun p => decide (get2 B p.1 p.2 = (i : Int))
theorem inpN_filter (B : List (List Int)) (i : Nat) (ps : List (Nat × Nat)) : inpN (bitF B i ps) ≤ inpN ps := by
  refine len_of_sub (inpL_nodup _) fun x hx => ?_
  obtain ⟨r, hr⟩ := mem_inpL.mp hx
  exact mem_inpL.mpr ⟨r, (List.mem_filter.mp hr).1⟩
theorem bitF_len (B : List (List Int)) (i : Nat) (ps : List (Nat × Nat)) : (bitF B i ps).length ≤ ps.length := List.length_filter_le _ _
/-- the pairs of the two sides, those of one side sifted -/
def subs (side : Nat) (h0 h1 f : List (Nat × Nat)) : List (Nat × Nat) × List (Nat × Nat) := if side = 0 then (f, h1) else (h0, f)
/-- each branch is nearer to its end -/
def Near (side : Nat) (h0 h1 : List (Nat × Nat)) (depth : Nat) (B : List (List Int)) : Prop := 0 < depth ∨ (2 ≤ inpN (pick side h0 h1) ∧ ∀ i, i < 2 → inpN (bitF B i (pick side h0 h1)) + 1 ≤ inpN (pick side h0 h1))
theorem near_dm {side depth i : Nat} {h0 h1 : List (Nat × Nat)} {B : List (List Int)} (n : Near side h0 h1 depth B) (hi : i < 2) :
    dm (subs side h0 h1 (bitF B i (pick side h0 h1))).1 (subs side h0 h1 (bitF B i (pick side h0 h1))).2 (depth - 1) + 1 ≤ dm h0 h1 depth := by
  have hle := inpN_filter B i (pick side h0 h1)
  unfold Near at n
  unfold dm subs
  by_cases e : side = 0
  · simp only [pick, if_pos e] at n hle ⊢
    rcases n with n | ⟨n, m⟩
    · omega
    · have := m i hi
      omega
  · simp only [pick, if_neg e] at n hle ⊢
    rcases n with n | ⟨n, m⟩
    · omega
    · have := m i hi
      omega
theorem here_sub {Z : Sz} {h0 h1 : List (Nat × Nat)} (h : HereOk Z h0 h1) (side i : Nat) (B : List (List Int)) : HereOk Z (subs side h0 h1 (bitF B i (pick side h0 h1))).1 (subs side h0 h1 (bitF B i (pick side h0 h1))).2 := by
  obtain ⟨a, b, c, d⟩ := h
  unfold subs
  by_cases e : side = 0
  · simp only [pick, if_pos e]
    exact ⟨fun p hp => a p (List.mem_filter.mp hp).1, b, Nat.le_trans (bitF_len _ _ _) c, d⟩
  · simp only [pick, if_neg e]
    exact ⟨a, fun p hp => b p (List.mem_filter.mp hp).1, c, Nat.le_trans (bitF_len _ _ _) d⟩
theorem matB_bits {n k : Nat} {B : List (List Int)} (h : MatB n k 2 B) : Sh n k B ∧ Bits B := ⟨h.1, fun r hr b hb => by
  have := h.2 r hr b hb
  omega⟩
theorem say_ok {Z : Sz} {M B : List (List Int)} {h0 h1 : List (Nat × Nat)} {side depth : Nat} {f g : Tr} (s2 : side < 2) (ho : HereOk Z h0 h1) (hB : MatB (Z.sz side) (Z.cn side) 2 B) (n : Near side h0 h1 depth B)
    (hf : TreeOk Z M (subs side h0 h1 (bitF B 0 (pick side h0 h1))).1 (subs side h0 h1 (bitF B 0 (pick side h0 h1))).2 (depth - 1) f)
    (hg : TreeOk Z M (subs side h0 h1 (bitF B 1 (pick side h0 h1))).1 (subs side h0 h1 (bitF B 1 (pick side h0 h1))).2 (depth - 1) g) : TreeOk Z M h0 h1 depth (.say side B f g) where
  wf := ⟨s2, (matB_bits hB).1, (matB_bits hB).2, hf.wf, hg.wf⟩
  dep := by
    have a := near_dm n (i := 0) (by decide)
    have b := near_dm n (i := 1) (by decide)
    have := hf.dep
    have := hg.dep
    show max f.dep g.dep + 1 ≤ _
    omega
  right := fun p hp q hq => by
    have px := ho.b0 p hp
    have qy := ho.b1 q hq
    have hb : get2 B (pick side p.1 q.1) (pick side p.2 q.2) = 0 ∨ get2 B (pick side p.1 q.1) (pick side p.2 q.2) = 1 := get2_bit (matB_bits hB).2 (matB_bits hB).1 (pick_lt px.1 qy.1) (pick_lc px.2 qy.2)
    show (if _ then _ else _ : List Int × (Int × Int)).2 = _
    rcases (by omega : side = 0 ∨ side = 1) with e | e
    · subst e
      have hb' : get2 B p.1 p.2 = 0 ∨ get2 B p.1 p.2 = 1 := hb
      rcases hb' with z | z
      · rw [if_pos (show get2 B (pick 0 p.1 q.1) (pick 0 p.2 q.2) = 0 from z)]
        exact hf.right p (List.mem_filter.mpr ⟨hp, by simpa using z⟩) q hq
      · rw [if_neg (show ¬ get2 B (pick 0 p.1 q.1) (pick 0 p.2 q.2) = 0 from fun z' => by rw [show get2 B (pick 0 p.1 q.1) (pick 0 p.2 q.2) = 1 from z] at z'; cases z')]
        exact hg.right p (List.mem_filter.mpr ⟨hp, by simpa using z⟩) q hq
    · subst e
      have hb' : get2 B q.1 q.2 = 0 ∨ get2 B q.1 q.2 = 1 := hb
      rcases hb' with z | z
      · rw [if_pos (show get2 B (pick 1 p.1 q.1) (pick 1 p.2 q.2) = 0 from z)]
        exact hf.right p hp q (List.mem_filter.mpr ⟨hq, by simpa using z⟩)
      · rw [if_neg (show ¬ get2 B (pick 1 p.1 q.1) (pick 1 p.2 q.2) = 0 from fun z' => by rw [show get2 B (pick 1 p.1 q.1) (pick 1 p.2 q.2) = 1 from z] at z'; cases z')]
        exact hg.right p hp q (List.mem_filter.mpr ⟨hq, by simpa using z⟩)
/-- the same number everywhere -/
def rep (n k : Nat) (c : Int) : List (List Int) := List.replicate n (List.replicate k c)
theorem rep_sh (n k : Nat) (c : Int) : Sh n k (rep n k c) := ⟨by simp [rep], fun r hr => by rw [List.eq_of_mem_replicate hr]; simp⟩
theorem rep_get {n k i j : Nat} {c : Int} (hi : i < n) (hj : j < k) : get2 (rep n k c) i j = c := by
  unfold get2 rep
  rw [List.getD_eq_getElem?_getD (l := List.replicate n _), List.getElem?_replicate, if_pos hi]
  show (List.replicate k c).getD j 0 = c
  rw [List.getD_eq_getElem?_getD, List.getElem?_replicate, if_pos hj]
  rfl
theorem fin_ok {Z : Sz} {M : List (List Int)} {h0 h1 : List (Nat × Nat)} {depth : Nat} {c : Int} (ho : HereOk Z h0 h1) (hc : ∀ p ∈ h0, ∀ q ∈ h1, get2 M p.1 q.1 = c) : TreeOk Z M h0 h1 depth (.fin (rep Z.X Z.c0 c) (rep Z.Y Z.c1 c)) where
  wf := ⟨rep_sh _ _ _, rep_sh _ _ _⟩
  dep := Nat.zero_le _
  right := fun p hp q hq => by
    have px := ho.b0 p hp
    have qy := ho.b1 q hq
    show (get2 (rep Z.X Z.c0 c) p.1 p.2, get2 (rep Z.Y Z.c1 c) q.1 q.2) = _
    rw [rep_get px.1 px.2, rep_get qy.1 qy.2, hc p hp q hq]
/-- where two cells differ, one side has two inputs -/
theorem two_inputs {M : List (List Int)} {h0 h1 : List (Nat × Nat)} (h : ∃ p ∈ h0, ∃ p' ∈ h0, ∃ q ∈ h1, ∃ q' ∈ h1, get2 M p.1 q.1 ≠ get2 M p'.1 q'.1) : 2 ≤ inpN h0 ∨ 2 ≤ inpN h1 := by
  obtain ⟨p, hp, p', hp', q, hq, q', hq', hne⟩ := h
  have two : ∀ (ps : List (Nat × Nat)) (a b : Nat × Nat), a ∈ ps → b ∈ ps → a.1 ≠ b.1 → 2 ≤ inpN ps := fun ps a b ha hb hn => by
    have : [a.1, b.1].length ≤ inpN ps := len_of_sub (by simp [hn]) fun x hx => by
      rcases List.mem_cons.mp hx with e | hx
      · rw [e]; exact mem_inpL.mpr ⟨a.2, ha⟩
      · rw [List.mem_singleton.mp hx]; exact mem_inpL.mpr ⟨b.2, hb⟩
    exact this
  by_cases e : p.1 = p'.1
  · refine .inr (two h1 q q' hq hq' fun e2 => hne (by rw [e, e2]))
  · exact .inl (two h0 p p' hp hp' e)
/-- the bits that tell whether one is among those shown -/
def saidB (n k : Nat) (said : List Nat) : List (List Int) := (List.range n).map fun x => List.replicate k (if x ∈ said then 1 else 0)
theorem saidB_ok (n k : Nat) (said : List Nat) : MatB n k 2 (saidB n k said) := by
  refine ⟨⟨by simp [saidB], fun r hr => ?_⟩, fun r hr b hb => ?_⟩
  · obtain ⟨x, _, rfl⟩ := List.mem_map.mp hr
    simp
  · obtain ⟨x, _, rfl⟩ := List.mem_map.mp hr
    rw [List.eq_of_mem_replicate hb]
    split <;> omega
theorem saidB_get {n k x r : Nat} {said : List Nat} (hx : x < n) (hr : r < k) : get2 (saidB n k said) x r = if x ∈ said then 1 else 0 := by
  unfold get2 saidB
  rw [List.getD_eq_getElem?_getD (l := List.map _ _), List.getElem?_map, List.getElem?_range hx]
  show (List.replicate k _).getD r 0 = _
  rw [List.getD_eq_getElem?_getD, List.getElem?_replicate, if_pos hr]
  rfl
theorem said_near {side depth n k : Nat} {h0 h1 : List (Nat × Nat)} {said : List Nat} (hb : ∀ p ∈ pick side h0 h1, p.1 < n ∧ p.2 < k) (h2 : ∀ x ∈ said, x ∈ inpL (pick side h0 h1)) (h3 : said ≠ []) (h4 : ∃ z ∈ inpL (pick side h0 h1), z ∉ said) : Near side h0 h1 depth (saidB n k said) := by
  generalize hps : pick side h0 h1 = ps at *
  obtain ⟨z, hz, hz2⟩ := h4
  obtain ⟨x, hx⟩ := List.exists_mem_of_ne_nil said h3
  have hxi := h2 x hx
  have key : ∀ i : Nat, i < 2 → inpN (bitF (saidB n k said) i ps) + 1 ≤ inpN ps := by
    intro i hi
    have sub : ∀ y ∈ inpL (bitF (saidB n k said) i ps), y ∈ inpL ps := fun y hy => by
      obtain ⟨r, hr⟩ := mem_inpL.mp hy
      exact mem_inpL.mpr ⟨r, (List.mem_filter.mp hr).1⟩
    have val : ∀ y ∈ inpL (bitF (saidB n k said) i ps), (if y ∈ said then (1 : Int) else 0) = (i : Int) := fun y hy => by
      obtain ⟨r, hr⟩ := mem_inpL.mp hy
      obtain ⟨h5, h6⟩ := List.mem_filter.mp hr
      have hb' := hb _ h5
      have h6 := of_decide_eq_true h6
      rw [saidB_get hb'.1 hb'.2] at h6
      exact h6
    rcases (by omega : i = 0 ∨ i = 1) with e | e
    · subst e
      exact len_of_sub1 (z := x) (inpL_nodup _) sub hxi fun hc => by
        have := val x hc
        rw [if_pos hx] at this
        cases this
    · subst e
      exact len_of_sub1 (z := z) (inpL_nodup _) sub hz fun hc => by
        have := val z hc
        rw [if_neg hz2] at this
        cases this
  refine .inr ?_
  rw [hps]
  refine ⟨?_, key⟩
  have : [x, z].length ≤ inpN ps := len_of_sub (by simp; exact fun e => hz2 (e ▸ hx)) fun y hy => by
    rcases List.mem_cons.mp hy with e | hy
    · rw [e]; exact hxi
    · rw [List.mem_singleton.mp hy]; exact hz
  exact this
end JH
set_option Elab.async false
set_option maxRecDepth 100000
set_option maxHeartbeats 4000000
/-! what one side shows -/
namespace JH
open PySem PySem.Spec PyProof.Rows L2 Evl
abbrev hereD (h0 h1 : List (Nat × Nat)) : D := .lst [.lst (pairsD h0), .lst (pairsD h1)]
theorem here_ix {h0 h1 : List (Nat × Nat)} {side : Nat} (h : side < 2) : [D.lst (pairsD h0), .lst (pairsD h1)][side]? = some (.lst (pairsD (pick side h0 h1))) := by
  rcases (by omega : side = 0 ∨ side = 1) with e | e
  · subst e; rfl
  · subst e; rfl
theorem here_ix1 {h0 h1 : List (Nat × Nat)} {side : Nat} (h : side < 2) : [D.lst (pairsD h0), .lst (pairsD h1)][1 - side]? = some (.lst (pairsD (pick (1 - side) h0 h1))) := here_ix (by omega)
theorem here_len {Z : Sz} {h0 h1 : List (Nat × Nat)} (h : HereOk Z h0 h1) (side : Nat) : (pick side h0 h1).length ≤ 100 := by
  unfold pick
  have := h.l0
  have := h.l1
  split <;> omega
theorem here_bd {Z : Sz} {h0 h1 : List (Nat × Nat)} (h : HereOk Z h0 h1) (side : Nat) : ∀ p ∈ pick side h0 h1, p.1 < Z.sz side ∧ p.2 < Z.cn side := by
  unfold pick Sz.sz Sz.cn
  by_cases e : side = 0
  · simp only [if_pos e]; exact h.b0
  · simp only [if_neg e]; exact h.b1
theorem inp_bd {Z : Sz} {h0 h1 : List (Nat × Nat)} (h : HereOk Z h0 h1) (side : Nat) : ∀ x ∈ inpL (pick side h0 h1), x < Z.sz side := fun x hx => by
  obtain ⟨r, hr⟩ := mem_inpL.mp hx
  exact (here_bd h side _ hr).1
/-- a list that no hand is -/
theorem not_hand {p l a : Addr} {H : Hp} {xs : List V} (h : HandAt p l H) (ha : H a = some (.lst xs)) (hn : ∀ i, xs[1]? ≠ some (.int i)) : a ≠ p := fun z => by
  obtain ⟨_, ⟨c, _, hp⟩, _⟩ := h
  rw [z, hp] at ha
  cases ha
  exact hn c rfl
theorem pairs_ref {H : Hp} {ps : List (Nat × Nat)} {vs : List V} (h : DatL H (pairsD ps) vs) : ∀ i, vs[1]? ≠ some (.int i) := fun i e => by
  obtain ⟨d, h1, h2⟩ := h.getV e
  rw [List.getElem?_map] at h1
  obtain ⟨q, _, rfl⟩ := Option.map_eq_some_iff.mp h1
  obtain ⟨a, us, z, _⟩ := h2
  cases z
theorem here_keep {p l : Addr} {H H' : Hp} {h0 h1 : List (Nat × Nat)} {v : V} (w : W p l H H') (h : Dat H (hereD h0 h1) v) : Dat H' (hereD h0 h1) v := by
  obtain ⟨a, vs, rfl, ha, hvs⟩ := h
  obtain ⟨u1, u2, rfl, ⟨b1, w1, rfl, hb1, hw1⟩, ⟨b2, w2, rfl, hb2, hw2⟩⟩ := datL2 hvs
  have na := not_hand w.h0 ha (fun i z => by cases z)
  have n1 := not_hand w.h0 hb1 (pairs_ref hw1)
  have n2 := not_hand w.h0 hb2 (pairs_ref hw2)
  exact ⟨a, _, rfl, w.ex _ _ na ha, ⟨_, _, rfl, ⟨b1, w1, rfl, w.ex _ _ n1 hb1, hw1.te w.te (pairsD_T _)⟩, ⟨_, _, rfl, ⟨b2, w2, rfl, w.ex _ _ n2 hb2, hw2.te w.te (pairsD_T _)⟩, rfl⟩⟩⟩
def ShownOk (h0 h1 : List (Nat × Nat)) (side : Nat) (said : List Nat) : Prop := side < 2 ∧ (∀ x ∈ said, x ∈ inpL (pick side h0 h1)) ∧ said ≠ [] ∧ ∃ z ∈ inpL (pick side h0 h1), z ∉ said
def sp_shown : Sp := fun vs H Q _ => ∃ (p l : Addr) (Z : Sz) (M : List (List Int)) (h0 h1 : List (Nat × Nat)) (v2 v3 : V), vs = [.ref p, v2, v3] ∧ HandAt p l H ∧ Dat H (mat M) v2 ∧ Dat H (hereD h0 h1) v3 ∧ Sh Z.X Z.Y M ∧ HereOk Z h0 h1 ∧ (2 ≤ inpN h0 ∨ 2 ≤ inpN h1) ∧
  ∀ side said v H', W p l H H' → ShownOk h0 h1 side said → Dat H' (.lst [.int side, .lst (natsD said)]) v → Q v H'
section
variable {K : PySem.W.Frag} {p l : Addr} {σ : L2.St} {H H' : Hp} {ta tb tl te : L2.TE} {DD : Ends} {tu tz : TS} {g : TG}
theorem q_forTake {i j : Nat} (hh : HandAt p l H) (h0 : σ[i]? = some (some (.ref p))) (Pv : Hp → List Int → L2.St → Hp → Prop) (hP0 : ∀ H1, W p l H H1 → Pv H1 [] σ H1) (hk : ∀ H1 xs σ' H', Pv H1 xs σ' H' → Ex H1 H')
    (hs : ∀ H1 k xs (s : Nat) σ' H', W p l H H1 → k < 2 → s < 2 → Pv H1 xs σ' H' → tu { DD with nx := Pv H1 (xs ++ [(s : Int)]), ct := Pv H1 (xs ++ [(s : Int)]), bk := tz DD } (σ'.set j (some (.int (s : Int)))) H')
    (hd : ∀ H1 (k : Nat) σ' H', W p l H H1 → Pv H1 [(k : Int), 0, 1] σ' H' → tz DD σ' H') : tSeq (tFor (iList K (tLst (tCons (tCall sp_take [] E0 (tCons (tVar i) (tCons (tC (.int 2)) tNil))) (tCons (tC (.int 0)) (tCons (tC (.int 1)) tNil))))) (gName j) tu) tz DD σ H := by
  refine eh_take (p := p) (l := l) (i := i) (m := 2) (tb := tC (.int 2)) h0 (fun H1 _ => ed_ci) (by decide) H (W.refl hh) _ fun v H1 w1 ⟨d, ⟨k, ed, k0, k2⟩, hv⟩ => ?_
  subst ed
  cases (show v = V.int k from hv)
  refine ⟨sz_of (by simp), fun q hq => ⟨q, rfl, ⟨_, SqL.of upd_same⟩, ?_⟩⟩
  have w2 : W p l H (upd H1 q (.lst [V.int k, .int 0, .int 1])) := w1.trans (W.of w1.h1 (Ex.new hq))
  have hq2 : (upd H1 q (.lst [V.int k, .int 0, .int 1])) q = some (.lst [V.int k, .int 0, .int 1]) := upd_same
  generalize upd H1 q (.lst [V.int k, .int 0, .int 1]) = H2 at *
  let ks : List Int := [k, 0, 1]
  refine for_list (D := { DD with nx := tz DD }) (xs := [V.int k, .int 0, .int 1]) (fun t σ' H' => Pv H2 (ks.take t) σ' H') (hP0 H2 w2) (fun t σ' H' _ h => SqL.of (hk H2 _ σ' H' h _ _ hq2)) (fun t x σ' H' hi h => ?_) (fun σ' H' h => ?_)
  · have kn : k = ((k.toNat : Nat) : Int) := by omega
    have key : ∀ s : Nat, s < 2 → ks.take (t + 1) = ks.take t ++ [(s : Int)] → x = V.int (s : Int) → gName j x σ' H' fun σ2 H2' => tu { DD with nx := Pv H2 (ks.take (t + 1)), ct := Pv H2 (ks.take (t + 1)), bk := tz DD } σ2 H2' := fun s hs2 e ex => by
      subst ex
      rw [e]
      exact hs H2 k.toNat _ s σ' H' w2 (by omega) hs2 h
    rcases (by have := (List.getElem?_eq_some_iff.mp hi).1; simp at this; omega : t = 0 ∨ t = 1 ∨ t = 2) with e | e | e
    · subst e
      simp at hi
      exact key k.toNat (by omega) (by rw [← kn]; rfl) (by rw [← kn]; exact hi.symm)
    · subst e
      simp at hi
      exact key 0 (by omega) rfl hi.symm
    · subst e
      simp at hi
      exact key 1 (by omega) rfl hi.symm
  · have kn : k = ((k.toNat : Nat) : Int) := by omega
    refine hd H2 k.toNat σ' H' w2 ?_
    rw [← kn]
    exact h
end
section
variable {P : Program} {w : World} {K : PySem.W.Frag} {mg : Str → Option Value} {base : Heap} {C : Addr}
abbrev K_law_shown (P : Program) (w : World) (K : PySem.W.Frag) (mg : Str → Option Value) (base : Heap) : Prop := Fk P w K mg base "_law_shown" ["_law_hand", "_law_table_here", "_law_here"] 3 sp_shown
theorem sc_law_shown : FnScope ["_law_hand", "_law_table_here", "_law_here", "_law_side", "_law_inputs_here", "_law_bundle_here"] ["_law_hand", "_law_table_here", "_law_here"] (defScope s_law_shown) := ⟨rfl, rfl, rfl, by decide +kernel, rfl, by decide +kernel, by decide +kernel⟩
theorem ok_law_shown {f : Addr} {fd : FuncData} (F : FnP K "_law_shown" "_law_shown" s_law_shown f fd) (T : Txt mg) (c_law_take : K_law_take P w K mg base) (c_law_inputs : K_law_inputs P w K mg base) (c_law_bundle : K_law_bundle P w K mg base) : FnOk P w K mg base CX0 3 f fd ["_law_hand", "_law_table_here", "_law_here"] (sp_shown) := by
  refine FunD.ok F sc_law_shown (fun vs H Q E h => ?_) (fun cdv A outer s H vs Q E hr h => ?_)
  · obtain ⟨p, l, Z, M, h0, h1, v2, v3, rfl, _⟩ := h
    rfl
  · obtain ⟨p, l, Z, M, h0, h1, v2, v3, rfl, hh, h2, h3, sh, ho, two, k⟩ := h
    refine ⟨_, PSs.nox (pss_cons (ps_for PassesOwn.never (by rfl) (pi_range1 (by rfl) T.range (pa_cons pe_int pa_nil)) (pgv 3 sc_law_shown.nd)
    (pss_cons (psv 4 sc_law_shown.nd (pe_callF c_law_inputs hr (by first | decide | omega) (pa_cons (pe_ix (k_ixL (K := K)) (pv 2) (pv 3) (fun _ _ => rfl)) pa_nil)))
    (pss_one (ps_if (pt_cmpR op_gt (pe_callB (k_len (K := K)) (by rfl) T.len bt_len (pa_cons (pv 4) pa_nil)) pe_int (nomark _))
    (pss_cons (psv 5 sc_law_shown.nd (pe_callF c_law_bundle hr (by first | decide | omega) (pa_cons (pv 1) (pa_cons (pv 4) (pa_cons (pe_callF c_law_inputs hr (by first | decide | omega) (pa_cons (pe_ix (k_ixL (K := K)) (pv 2) (pe_op op_sub pe_int (pv 3)) (fun _ _ => rfl)) pa_nil)) (pa_cons (pv 3) pa_nil))))))
    (pss_one (ps_if (pt_cmpR op_lt (pe_callB (k_len (K := K)) (by rfl) T.len bt_len (pa_cons (pv 5) pa_nil)) (pe_callB (k_len (K := K)) (by rfl) T.len bt_len (pa_cons (pv 4) pa_nil)) (nomark _))
    (pss_one (ps_ret (pe_lst (pa_cons (pv 3) (pa_cons (pv 5) pa_nil)))))
    pss_nil)))
    pss_nil))))
    (pss_cons (ps_for PassesOwn.never (by rfl) (k_pL (K := K) (pe_lst (pa_cons (pe_callF c_law_take hr (by first | decide | omega) (pa_cons (pv 0) (pa_cons pe_int pa_nil))) (pa_cons pe_int (pa_cons pe_int pa_nil))))) (pgv 3 sc_law_shown.nd)
    (pss_cons (psv 4 sc_law_shown.nd (pe_callF c_law_inputs hr (by first | decide | omega) (pa_cons (pe_ix (k_ixL (K := K)) (pv 2) (pv 3) (fun _ _ => rfl)) pa_nil)))
    (pss_one (ps_if (pt_cmpR op_gt (pe_callB (k_len (K := K)) (by rfl) T.len bt_len (pa_cons (pv 4) pa_nil)) pe_int (nomark _))
    (pss_one (ps_ret (pe_lst (pa_cons (pv 3) (pa_cons (pe_lst (pa_cons (pe_ix (k_ixL (K := K)) (pv 4) (pe_callF c_law_take hr (by first | decide | omega) (pa_cons (pv 0) (pa_cons (pe_callB (k_len (K := K)) (by rfl) T.len bt_len (pa_cons (pv 4) pa_nil)) pa_nil))) (fun _ _ => rfl)) pa_nil)) pa_nil)))))
    pss_nil))))
    (pss_one (ps_ret (pe_lst (pa_cons pe_int (pa_cons (pe_lst pa_nil) pa_nil))))))), ?_⟩
    refine q_forR (n := 2) ed_ci (by decide) (fun i σ' H' => Ex H H' ∧ ∃ o3 o4 o5 : Option V, σ' = [some (.ref p), some v2, some v3, o3, o4, o5]) (fun H1 e1 => ⟨e1, none, none, none, rfl⟩) ?_ ?_
    · rintro side σ' H1 s2 ⟨e1, o3, o4, o5, rfl⟩
      refine q_asgN (en_callN (pick side h0 h1) (eda_cons (ed_ixL (K := K) (i := (side : Int)) (j := side) (ed_var rfl (h3.ex e1)) (ed_var (d := .int side) rfl rfl) rfl (here_ix s2)) eda_nil) (by have := here_len ho side; omega)) fun a vs H2 a0 e2 ha hvs => ?_
      have e12 := e1.trans e2
      have hda : Dat H2 (.lst (natsD (inpL (pick side h0 h1)))) (.ref a) := Dat.lst ha hvs
      have hlen : ∀ (σ5 : L2.St) H5, Ex H2 H5 → σ5[4]? = some (some (.ref a)) → EvD (tCB (rLenS K) (tCons (tVar 4) tNil)) σ5 H5 (.int ((inpN (pick side h0 h1) : Nat) : Int)) := fun σ5 H5 e5 g => ed_is (ed_lenL (ed_var g (hda.ex e5))) (by rw [List.length_map])
      refine s_when (b := decide (((inpN (pick side h0 h1) : Nat) : Int) > 1)) (et_b (ed_B0 (g := fun i j => decide (i > j)) (hlen _ _ (Ex.refl _) rfl) ed_ci)) (fun hb H3 e3 => ?_) (fun _ H3 e3 => ⟨e12.trans e3, _, _, _, rfl⟩)
      have hb := of_decide_eq_true hb
      have e13 := e12.trans e3
      have hls := here_len ho side
      have hli := inpL_len (ps := pick side h0 h1)
      refine q_asgR (er_call (R' := fun H v => ∃ q b, v = .ref q ∧ H q = some (.lst (natsV b)) ∧ b ≠ [] ∧ b.Nodup ∧ ∀ x ∈ b, x ∈ inpL (pick side h0 h1)) (eda_cons (ed_var rfl (h2.ex e13)) (eda_cons (ed_var rfl (hda.ex e3)) (eda_cons (EvN.toD (en_callN (pick (1 - side) h0 h1) (eda_cons (ed_ixL (K := K) (i := ((1 : Int) - side)) (j := 1 - side) (ed_var rfl (h3.ex e13)) (ed_I0 (g := fun i j => i - j) ed_ci (ed_var (d := .int side) rfl rfl)) (by omega) (here_ix1 s2)) eda_nil) (by have := here_len ho (1 - side); omega))) (eda_cons (ed_var (d := .int side) rfl rfl) eda_nil)))) fun vs H4 e4 r Q' q' => ?_) fun v5 H4 e4 hv5 => ?_
      · refine ⟨Z, M, inpL (pick side h0 h1), inpL (pick (1 - side) h0 h1), side, by rw [List.append_nil]; exact r, sh, s2, fun z => ?_, by omega, inp_bd ho side, inp_bd ho (1 - side), fun q H5 b _ e5 hq b1 b2 b3 => q' _ H5 e5 ⟨q, b, rfl, hq, b1, b2, b3⟩⟩
        rw [show inpN (pick side h0 h1) = 0 from by unfold inpN; rw [z]; rfl] at hb
        cases hb
      · obtain ⟨q, b, rfl, hq, b1, b2, b3⟩ := hv5
        have e14 := e13.trans e4
        refine s_when (b := decide (((b.length : Nat) : Int) < ((inpN (pick side h0 h1) : Nat) : Int))) (et_b (ed_B0 (g := fun i j => decide (i < j)) (ed_is (ed_lenL (ds := natsD b) (ed_var rfl (Dat.lst hq dat_nats))) (by rw [List.length_map])) (hlen _ _ (e3.trans e4) rfl))) (fun hb2 H5 e5 => ?_) (fun _ H5 e5 => ⟨e14.trans e5, _, _, _, rfl⟩)
        have hb2 := of_decide_eq_true hb2
        refine s_retD (ed_lst (ds := [.int side, .lst (natsD b)]) (eda_cons (ed_var (d := .int side) rfl rfl) (eda_cons (ed_var rfl ((Dat.lst hq dat_nats).ex e5)) eda_nil)) (by simp)) fun v H6 e6 hv => k side b v H6 (W.of hh (e14.trans (e5.trans e6))) ⟨s2, b3, b1, ?_⟩ hv
        by_cases hc : ∃ z ∈ inpL (pick side h0 h1), z ∉ b
        · exact hc
        · exfalso
          have : ∀ z ∈ inpL (pick side h0 h1), z ∈ b := fun z hz => by
            by_cases h : z ∈ b
            · exact h
            · exact absurd ⟨z, hz, h⟩ hc
          have := len_of_sub (inpL_nodup _) this
          have eN : inpN (pick side h0 h1) = (inpL (pick side h0 h1)).length := rfl
          omega
    · rintro σ' H1 ⟨e1, o3, o4, o5, rfl⟩
      have hh1 := hh.ex e1
      have h31 := h3.ex e1
      refine q_forTake (p := p) (l := l) hh1 rfl (fun H2 xs σ' H' => Ex H2 H' ∧ (∃ o3 o4 : Option V, σ' = [some (.ref p), some v2, some v3, o3, o4, o5]) ∧ ∀ s : Nat, (s : Int) ∈ xs → s < 2 → inpN (pick s h0 h1) < 2) (fun H2 w2 => ⟨Ex.refl _, ⟨_, _, rfl⟩, fun s hs => by cases hs⟩) (fun H2 xs σ' H' h => h.1) ?_ ?_
      · rintro H2 _ xs side σ' H3 w2 _ s2 ⟨e3, ⟨o3, o4, rfl⟩, hxs⟩
        have w3 : W p l H1 H3 := w2.trans (W.of w2.h1 e3)
        have h33 := here_keep w3 h31
        refine q_asgN (en_callN (pick side h0 h1) (eda_cons (ed_ixL (K := K) (i := (side : Int)) (j := side) (ed_var rfl h33) (ed_var (d := .int side) rfl rfl) rfl (here_ix s2)) eda_nil) (by have := here_len ho side; omega)) fun a vs H4 a0 e4 ha hvs => ?_
        have w4 : W p l H1 H4 := w3.trans (W.of w3.h1 e4)
        have hda : Dat H4 (.lst (natsD (inpL (pick side h0 h1)))) (.ref a) := Dat.lst ha hvs
        have hlen : ∀ (σ5 : L2.St) H5, Ex H4 H5 → σ5[4]? = some (some (.ref a)) → EvD (tCB (rLenS K) (tCons (tVar 4) tNil)) σ5 H5 (.int ((inpN (pick side h0 h1) : Nat) : Int)) := fun σ5 H5 e5 g => ed_is (ed_lenL (ed_var g (hda.ex e5))) (by rw [List.length_map])
        refine s_when (b := decide (((inpN (pick side h0 h1) : Nat) : Int) > 1)) (et_b (ed_B0 (g := fun i j => decide (i > j)) (hlen _ _ (Ex.refl _) rfl) ed_ci)) (fun hb H5 e5 => ?_) (fun hb H5 e5 => ⟨e3.trans (e4.trans e5), ⟨_, _, rfl⟩, fun s hs s2' => ?_⟩)
        · have hb := of_decide_eq_true hb
          have w5 : W p l H1 H5 := w4.trans (W.of w4.h1 e5)
          have ha5 := e5 _ _ ha
          have nap : a ≠ p := (w3.h1.fresh a0).1
          have evs := nats_of hvs
          subst evs
          refine ⟨_, rfl, ⟨_, rfl, eh_take (p := p) (l := l) (i := 0) (m := inpN (pick side h0 h1)) (tb := tCB (rLenS K) (tCons (tVar 4) tNil)) (by rfl) (fun H6 w6 => ed_is (ed_lenL (ds := natsD (inpL (pick side h0 h1))) (ed_var (by rfl) (Dat.lst (w6.ex a _ nap ha5) dat_nats))) (by rw [List.length_map])) (by omega) H5 (W.refl w5.h1) _ fun u H6 w6 ⟨d, ⟨i, ed, i0, i1⟩, hu⟩ => ?_⟩⟩
          subst ed
          cases (show u = V.int i from hu)
          have ha6 := w6.ex a _ nap ha5
          have hin : i.toNat < inpN (pick side h0 h1) := by omega
          have hgi : (inpL (pick side h0 h1))[i.toNat]? = some (inpL (pick side h0 h1))[i.toNat] := List.getElem?_eq_getElem hin
          have hgv : (natsV (inpL (pick side h0 h1)))[i.toNat]? = some (.int ((inpL (pick side h0 h1))[i.toNat] : Nat)) := by rw [List.getElem?_map, hgi]; rfl
          refine ⟨a, _, i, _, rfl, rfl, sq_of ha6, at_get (by omega) hgv, sz_of (by simp), fun q hq => ⟨sz_of (by simp), fun r hr => ?_⟩⟩
          have w7 : W p l H6 (upd (upd H6 q (.lst [V.int ((inpL (pick side h0 h1))[i.toNat] : Nat)])) r (.lst [V.int side, .ref q])) := W.of w6.h1 ((Ex.new hq).trans (Ex.new hr))
          have nqr : q ≠ r := fun z => by rw [← z, upd_same] at hr; cases hr
          refine k side [(inpL (pick side h0 h1))[i.toNat]] _ _ ((W.of hh e1).trans (w5.trans (w6.trans w7))) ⟨s2, fun x hx => ?_, by simp, ?_⟩ (Dat.lst upd_same ⟨_, _, rfl, rfl, ⟨_, _, rfl, Dat.lst (by rw [upd_ne nqr, upd_same]; rfl) (dat_nats (l := [(inpL (pick side h0 h1))[i.toNat]])), rfl⟩⟩)
          · rw [List.mem_singleton.mp hx]
            exact List.getElem_mem hin
          · by_cases hc : ∃ z ∈ inpL (pick side h0 h1), z ∉ [(inpL (pick side h0 h1))[i.toNat]]
            · exact hc
            · exfalso
              have : ∀ z ∈ inpL (pick side h0 h1), z ∈ [(inpL (pick side h0 h1))[i.toNat]] := fun z hz => by
                by_cases h : z ∈ [(inpL (pick side h0 h1))[i.toNat]]
                · exact h
                · exact absurd ⟨z, hz, h⟩ hc
              have := len_of_sub (inpL_nodup _) this
              simp only [List.length_singleton] at this
              have h3 : inpN (pick side h0 h1) = (inpL (pick side h0 h1)).length := rfl
              omega
        · have hb := of_decide_eq_false hb
          rcases List.mem_append.mp hs with hs | hs
          · exact hxs s hs s2'
          · have : s = side := by have := List.mem_singleton.mp hs; omega
            subst this
            omega
      · rintro H2 kk σ' H3 w2 ⟨e3, _, hxs⟩
        exfalso
        have a0 := hxs 0 (by simp) (by decide)
        have a1 := hxs 1 (by simp) (by decide)
        rcases two with t | t
        · exact absurd t (by have : inpN (pick 0 h0 h1) = inpN h0 := rfl; omega)
        · exact absurd t (by have : inpN (pick 1 h0 h1) = inpN h1 := rfl; omega)
end
end JH
set_option Elab.async false
set_option maxRecDepth 100000
set_option maxHeartbeats 4000000
/-! the right tree -/
namespace JH
open PySem PySem.Spec PyProof.Rows L2 Evl
theorem k_gunl {X : Cx} {K : PySem.W.Frag} {pos : Pos} {es : List Expr} {k n : Nat} {t : TGs} (hc : X.calm = true) (h : PGs X es t) (hK : X.K = K := by rfl)
    (hn : (assignEach es X.env).length = n := by rfl) (hst : (assignEach es X.env).findIdx? (·.1) = none := by rfl) : PG X (.Tuple es k pos) (gUnl K n t) := by subst hK; exact pg_unl hc h hn hst
section
variable {K : PySem.W.Frag} {p l : Addr} {σ : L2.St} {H H' : Hp} {ta tb tc tl te : L2.TE} {DD : Ends} {tu tz : TS} {g : TG} {t : TT}
/-- an if whose test may take from the hand -/
theorem q_ifH (A B : Hp → Prop) (h : ∀ Q : Bool → Hp → Prop, (∀ H1, A H1 → Q true H1) → (∀ H1, B H1 → Q false H1) → t σ H Q) (k1 : ∀ H1, A H1 → tu { DD with nx := tz DD } σ H1) (k2 : ∀ H1, B H1 → tz DD σ H1) : tSeq (tIfS t tu tNext) tz DD σ H :=
  h _ (fun H1 a => by show tu _ σ H1; exact k1 H1 a) (fun H1 b => by show tz DD σ H1; exact k2 H1 b)
theorem eh_bits {i n k m : Nat} (h0 : σ[i]? = some (some (.ref p))) (ha : ∀ H1, W p l H H1 → EvD ta σ H1 (.int n)) (hb : ∀ H1, W p l H H1 → EvD tb σ H1 (.int k)) (hc : ∀ H1, W p l H H1 → EvD tc σ H1 (.int m)) (m0 : 0 < m) (hn : n ≤ 10) (hk : k ≤ 10) :
    EvHD p l (tCall sp_bits [] E0 (tCons (tVar i) (tCons ta (tCons tb (tCons tc tNil))))) σ H (fun d => ∃ M, d = mat M ∧ MatB n k m M) := fun H1 w Q q =>
  ⟨_, h0, ev_i (ha H1 w) H1 (Ex.refl _) _ fun H2 e2 => ev_i (hb H1 w) H2 e2 _ fun H3 e3 => ev_i (hc H1 w) H3 (e2.trans e3) _ fun H4 e4 =>
    ⟨p, l, n, k, m, rfl, w.h1.ex ((e2.trans e3).trans e4), m0, hn, hk, fun M v H5 w5 hM hv => q v H5 ((W.of w.h1 ((e2.trans e3).trans e4)).trans w5) ⟨mat M, ⟨M, rfl, hM⟩, hv⟩⟩⟩
theorem eh_ix0 {C C' : D → Prop} (h : EvHD p l te σ H C) (hc : ∀ d, C d → ∃ ds d', d = .tup ds ∧ ds[0]? = some d' ∧ C' d') : EvHD p l (tOp (rIxT K) te (tC (.int 0))) σ H C' := fun H1 w Q q =>
  h H1 w _ fun v H2 w2 ⟨d, cd, hv⟩ => by
    obtain ⟨ds, d', rfl, e, c'⟩ := hc d cd
    obtain ⟨a, vs, ev, ha, hvs⟩ := hv
    obtain ⟨u, hu, du⟩ := hvs.get e
    exact ⟨a, vs, 0, u, ev, rfl, SqT.of ha, at_get (j := 0) rfl hu, q u H2 w2 ⟨d', c', du⟩⟩
theorem eh_tup1 {C : D → Prop} (h : EvHD p l te σ H C) : EvHD p l (tTup (tCons te tNil)) σ H (fun d => ∃ d', d = .tup [d'] ∧ C d') := fun H1 w Q q =>
  h H1 w _ fun v H2 w2 ⟨d, cd, hv⟩ => ⟨sz_of (by simp), fun r hr => q _ _ (w2.trans (W.of w2.h1 (Ex.new hr))) ⟨.tup [d], ⟨d, rfl, cd⟩, Dat.tup upd_same ⟨v, [], rfl, hv.ex (Ex.new hr), rfl⟩⟩⟩
theorem flat_rep {α : Type} (n : Nat) (a : α) : (List.replicate n [a]).flatten = List.replicate n a := by
  induction n with
  | zero => rfl
  | succ n ih => rw [List.replicate_succ, List.replicate_succ, List.flatten_cons, ih]; rfl
/-- (x,) * n -/
theorem ed_rep1 {n : Nat} {d : D} (ha : EvD ta σ H (.tup [d])) (hb : EvD tb σ H (.int n)) (h1 : 1 ≤ n) (h2 : n ≤ 1000) : EvD (tOp (rRepA K) ta tb) σ H (.tup (List.replicate n d)) := by
  have h := ed_rep (K := K) ha hb (by simp) h1 h2 (by simp)
  rw [flat_rep] at h
  exact h
theorem eh_rep1 {n : Nat} {C : D → Prop} (ha : EvHD p l ta σ H (fun d => ∃ d', d = .tup [d'] ∧ C d')) (hb : ∀ H1, W p l H H1 → EvD tb σ H1 (.int n)) (h1 : 1 ≤ n) (h2 : n ≤ 1000) : EvHD p l (tOp (rRepA K) ta tb) σ H (fun d => ∃ d', d = .tup (List.replicate n d') ∧ C d') := fun H1 w Q q =>
  ha H1 w _ fun v H2 w2 ⟨d, ⟨d', ed, cd⟩, hv⟩ => by
    subst ed
    have key : EvD (tOp (rRepA K) (tC v) tb) σ H2 (.tup (List.replicate n d')) := ed_rep1 (ed_ev ev_c hv) (hb H2 (w.trans w2)) h1 h2
    exact key H2 (Ex.refl _) Q fun u H3 e3 hu => q u H3 (w2.trans (W.of w2.h1 e3)) ⟨_, ⟨d', rfl, cd⟩, hu⟩
theorem s_appH {q : Addr} {xs : List V} {R : Hp → V → Prop} (hh : HandAt p l H) (hq : H q = some (.lst xs)) (hqp : q ≠ p) (ha : Ev ta σ H (.ref q)) (h : EvH p l te σ H R) (hz : xs.length < 100000) (k : ∀ v H1, W p l H H1 → R H1 v → H1 q = some (.lst xs) → DD.nx σ (upd H1 q (.lst (xs ++ [v])))) :
    tDrop (tBM K "list" rAppend ta (tCons te tNil)) DD σ H := ha H (Ex.refl H) _ fun H1 e1 =>
  ⟨Or.inl ⟨rfl, xs, sq_of (e1 q _ hq)⟩, h H1 (W.of hh e1) _ fun v H2 w2 r => by
    have w := (W.of hh e1).trans w2
    have h2 := w.ex q _ hqp hq
    exact ⟨q, xs, v, rfl, rfl, h2, sz_lt hz, k v H2 w r h2⟩⟩
theorem g_unl {i j : Nat} {d1 d2 : D} {v : V} {Q : L2.St → Hp → Prop} (h : Dat H (.lst [d1, d2]) v) (k : ∀ u1 u2, Dat H d1 u1 → Dat H d2 u2 → Q ((σ.set i (some u1)).set j (some u2)) H) : gUnl K 2 (gCons (gName i) (gCons (gName j) gNil)) v σ H Q := by
  obtain ⟨a, us, rfl, h1, h2⟩ := h
  obtain ⟨u, v, rfl, h3, h4⟩ := datL2 h2
  exact ⟨a, _, rfl, SqL.of h1, rfl, _, _, rfl, _, _, rfl, rfl, k u v h3 h4⟩
end
/-- a pair's bit is i -/
def bitD (B : List (List Int)) (i : Nat) : D → Bool
  | .tup [.int x, .int y] => decide (get2 B x.toNat y.toNat = (i : Int))
  | _ => false
theorem bitD_filter (B : List (List Int)) (i : Nat) (ps : List (Nat × Nat)) : (pairsD ps).filter (bitD B i) = pairsD (bitF B i ps) := by
  unfold bitF pairsD
  rw [List.filter_map]
  rfl
theorem rep_mat (n k : Nat) (c : Int) : mat (rep n k c) = .tup (List.replicate n (.tup (List.replicate k (.int c)))) := by
  simp [mat, rep, List.map_replicate]
def sp_tree (n : Nat) : Sp := fun vs H Q _ => ∃ (p l : Addr) (Z : Sz) (M : List (List Int)) (h0 h1 : List (Nat × Nat)) (depth : Nat) (v2 v3 v4 : V), vs = [.ref p, v2, v3, v4, .int depth] ∧ HandAt p l H ∧ Dat H (mat M) v2 ∧ Dat H (hereD h0 h1) v3 ∧ Dat H (pairD Z.c0 Z.c1) v4 ∧ Z.Ok ∧ Sh Z.X Z.Y M ∧ HereOk Z h0 h1 ∧ dm h0 h1 depth < n ∧ depth ≤ 100 ∧
  ∀ t v H', W p l H H' → TreeOk Z M h0 h1 depth t → Dat H' (Tr.d t) v → Q v H'
theorem c_pair {Z : Sz} {side : Nat} (h : side < 2) : [D.int Z.c0, .int Z.c1][side]? = some (.int (Z.cn side)) := by
  rcases (by omega : side = 0 ∨ side = 1) with e | e
  · subst e; rfl
  · subst e; rfl
section
variable {P : Program} {w : World} {K : PySem.W.Frag} {mg : Str → Option Value} {base : Heap} {C : Addr}
abbrev K_law_right_tree (P : Program) (w : World) (K : PySem.W.Frag) (mg : Str → Option Value) (base : Heap) (n : Nat) : Prop := Fk P w K mg base "_law_right_tree" ["_law_hand", "_law_table_here", "_law_here", "_law_coins", "_law_depth"] (n + 4) (sp_tree n)
theorem ok_law_right_tree0 {f : Addr} {fd : FuncData} (F : FnP K "_law_right_tree" "_law_right_tree" s_law_right_tree f fd) : FnOk P w K mg base CX0 4 f fd ["_law_hand", "_law_table_here", "_law_here", "_law_coins", "_law_depth"] (sp_tree 0) :=
  FunD.ok F (N := ["_law_hand", "_law_table_here", "_law_here", "_law_coins", "_law_depth", "_law_constant_here", "_law_sizes", "_law_side", "_law_kind", "_law_bits_here", "_law_said", "_law_one", "_law_trees", "_law_bit", "_law_pairs", "_law_pair", "_law_both"]) ⟨rfl, rfl, rfl, by decide +kernel, rfl, by decide +kernel, by decide +kernel⟩
    (fun vs H Q E h => by obtain ⟨p, l, Z, M, h0, h1, depth, v2, v3, v4, rfl, _⟩ := h; rfl) (fun cdv A outer s H vs Q E hr h => by
      obtain ⟨p, l, Z, M, h0, h1, depth, v2, v3, v4, _, _, _, _, _, _, _, _, h, _⟩ := h
      omega)
theorem sc_law_right_tree : FnScope ["_law_hand", "_law_table_here", "_law_here", "_law_coins", "_law_depth", "_law_constant_here", "_law_sizes", "_law_side", "_law_kind", "_law_bits_here", "_law_said", "_law_one", "_law_trees", "_law_bit", "_law_pairs", "_law_pair", "_law_both"] ["_law_hand", "_law_table_here", "_law_here", "_law_coins", "_law_depth"] (defScope s_law_right_tree) := ⟨rfl, rfl, rfl, by decide +kernel, rfl, by decide +kernel, by decide +kernel⟩
theorem ok_law_right_tree {f : Addr} {fd : FuncData} (F : FnP K "_law_right_tree" "_law_right_tree" s_law_right_tree f fd) (T : Txt mg) {n : Nat} (c_law_take : K_law_take P w K mg base) (c_law_bits : K_law_bits P w K mg base) (c_law_constant : K_law_constant P w K mg base) (c_law_shown : K_law_shown P w K mg base) (c_law_right_tree : K_law_right_tree P w K mg base n) : FnOk P w K mg base CX0 (n+5) f fd ["_law_hand", "_law_table_here", "_law_here", "_law_coins", "_law_depth"] (sp_tree (n + 1)) := by
  refine FunD.ok F sc_law_right_tree (fun vs H Q E h => ?_) (fun cdv A outer s H vs Q E hr h => ?_)
  · obtain ⟨p, l, Z, M, h0, h1, depth, v2, v3, v4, rfl, _⟩ := h
    rfl
  · obtain ⟨p, l, Z, M, h0, h1, depth, v2, v3, v4, rfl, hh, h2, h3, h4, zok, sh, ho, hn, hd100, k⟩ := h
    have hpx := zok.x1
    have h4' : Dat H (.tup [.int Z.c0, .int Z.c1]) v4 := h4
    refine ⟨_, PSs.nox (pss_cons (psv 5 sc_law_right_tree.nd (pe_callF c_law_constant hr (by first | decide | omega) (pa_cons (pv 1) (pa_cons (pe_ix (k_ixL (K := K)) (pv 2) pe_int (fun _ _ => rfl)) (pa_cons (pe_ix (k_ixL (K := K)) (pv 2) pe_int (fun _ _ => rfl)) pa_nil)))))
    (pss_cons (psv 6 sc_law_right_tree.nd (pe_tup (pa_cons (pe_callB (k_len (K := K)) (by rfl) T.len bt_len (pa_cons (pv 1) pa_nil)) (pa_cons (pe_callB (k_len (K := K)) (by rfl) T.len bt_len (pa_cons (pe_ix (k_ixT (K := K)) (pv 1) pe_int (fun _ _ => rfl)) pa_nil)) pa_nil))))
    (pss_cons (ps_if (PW.pt (pw_and (pt_cmpR op_notN (pv 5) pe_non (nomark _)) (pw_and1 (PW.pt (pw_or (pt_cmpR op_eq (pv 4) pe_int (nomark _)) (pw_or1 (pt_cmpR op_gt (pe_callF c_law_take hr (by first | decide | omega) (pa_cons (pv 0) (pa_cons pe_int pa_nil))) pe_int (nomark _))))))))
    (pss_one (ps_ret (pe_tup (pa_cons pe_str (pa_cons (pe_op (op_repA (K := K)) (pe_tup (pa_cons (pe_op (op_repA (K := K)) (pe_tup (pa_cons (pv 5) pa_nil)) (pe_ix (k_ixT (K := K)) (pv 3) pe_int (fun _ _ => rfl))) pa_nil)) (pe_ix (k_ixT (K := K)) (pv 6) pe_int (fun _ _ => rfl))) (pa_cons (pe_op (op_repA (K := K)) (pe_tup (pa_cons (pe_op (op_repA (K := K)) (pe_tup (pa_cons (pv 5) pa_nil)) (pe_ix (k_ixT (K := K)) (pv 3) pe_int (fun _ _ => rfl))) pa_nil)) (pe_ix (k_ixT (K := K)) (pv 6) pe_int (fun _ _ => rfl))) pa_nil))))))
    pss_nil)
    (pss_cons (psv 7 sc_law_right_tree.nd (pe_callF c_law_take hr (by first | decide | omega) (pa_cons (pv 0) (pa_cons pe_int pa_nil))))
    (pss_cons (psv 8 sc_law_right_tree.nd (pe_callF c_law_take hr (by first | decide | omega) (pa_cons (pv 0) (pa_cons pe_int pa_nil))))
    (pss_cons (psv 9 sc_law_right_tree.nd (pe_callF c_law_bits hr (by first | decide | omega) (pa_cons (pv 0) (pa_cons (pe_ix (k_ixT (K := K)) (pv 6) (pv 7) (fun _ _ => rfl)) (pa_cons (pe_ix (k_ixT (K := K)) (pv 3) (pv 7) (fun _ _ => rfl)) (pa_cons pe_int pa_nil))))))
    (pss_cons (ps_if (pt_cmpR op_eq (pv 8) pe_int (nomark _))
    (pss_one (psv 9 sc_law_right_tree.nd (pe_op (op_repA (K := K)) (pe_tup (pa_cons (pe_ix (k_ixT (K := K)) (pe_callF c_law_bits hr (by first | decide | omega) (pa_cons (pv 0) (pa_cons pe_int (pa_cons (pe_ix (k_ixT (K := K)) (pv 3) (pv 7) (fun _ _ => rfl)) (pa_cons pe_int pa_nil))))) pe_int (fun _ _ => rfl)) pa_nil)) (pe_ix (k_ixT (K := K)) (pv 6) (pv 7) (fun _ _ => rfl)))))
    pss_nil)
    (pss_cons (ps_if (PW.pt (pw_or (pt_cmpR op_eq (pv 4) pe_int (nomark _)) (pw_or1 (PW.pt (pw_and (pt_cmpR op_gt (pv 8) pe_int (nomark _)) (pw_and1 (pt_cmpR op_isN (pv 5) pe_non (nomark _))))))))
    (pss_cons (ps_asg (pe_callF c_law_shown hr (by first | decide | omega) (pa_cons (pv 0) (pa_cons (pv 1) (pa_cons (pv 2) pa_nil)))) (k_gunl (K := K) (by rfl) (pgs_cons (pgv 7 sc_law_right_tree.nd) (pgs_cons (pgv 10 sc_law_right_tree.nd) pgs_nil))))
    (pss_one (psv 9 sc_law_right_tree.nd (pe_callTy (k_tuple (K := K)) (by rfl) T.tuple bt_tuple (pa_cons (pe_lc (own := [("_law_one", 11)]) (by rfl) sc_law_right_tree.nd (pi_range1 (by rfl) T.range (pa_cons (pe_ix (k_ixT (K := K)) (pv 6) (pv 7) (fun _ _ => rfl)) pa_nil)) (blkOk_by (by kernel_rfl)) (fun _ _ _ _ _ => (pgv 11 sc_law_right_tree.nd)) (fun _ _ _ _ _ => pts_nil) (fun _ _ _ _ _ => (pe_op (op_repA (K := K)) (pe_tup (pa_cons (pe_callTy call_int1 (by rfl) T.int bt_int (pa_cons (pe_cmpR (k_in (K := K)) (pv 11) (pv 10) (by rfl)) pa_nil)) pa_nil)) (pe_ix (k_ixT (K := K)) (pv 3) (pv 7) (fun _ _ => rfl))))) pa_nil)))))
    pss_nil)
    (pss_cons (psv 12 sc_law_right_tree.nd (pe_lst pa_nil))
    (pss_cons (ps_for PassesOwn.never (by rfl) (pi_range1 (by rfl) T.range (pa_cons pe_int pa_nil)) (pgv 13 sc_law_right_tree.nd)
    (pss_cons (ps_setLc (i := 14) (own := [("_law_pair", 15)]) (by rfl) sc_law_right_tree.nd rfl rfl (sw_true rfl rfl rfl (by decide +kernel)) (k_pL (K := K) (pe_ix (k_ixL (K := K)) (pv 2) (pv 7) (fun _ _ => rfl))) (blkOk_by (by kernel_rfl)) (fun _ _ _ _ _ => (pgv 15 sc_law_right_tree.nd)) (fun _ _ _ _ _ => (pts_one (pt_cmpR op_eq (pe_ix (k_ixT (K := K)) (pe_ix (k_ixT (K := K)) (pv 9) (pe_ix (k_ixT (K := K)) (pv 15) pe_int (fun _ _ => rfl)) (fun _ _ => rfl)) (pe_ix (k_ixT (K := K)) (pv 15) pe_int (fun _ _ => rfl)) (fun _ _ => rfl)) (pv 13) (nomark _)))) (fun _ _ _ _ _ => (pv 15)))
    (pss_cons (psv 16 sc_law_right_tree.nd (pe_ix (k_ixL (K := K)) (pe_lst (pa_cons (pe_lst (pa_cons (pv 14) (pa_cons (pe_ix (k_ixL (K := K)) (pv 2) pe_int (fun _ _ => rfl)) pa_nil))) (pa_cons (pe_lst (pa_cons (pe_ix (k_ixL (K := K)) (pv 2) pe_int (fun _ _ => rfl)) (pa_cons (pv 14) pa_nil))) pa_nil))) (pv 7) (fun _ _ => rfl)))
    (pss_one (ps_expr (k_append (K := K) (pv 12) (pa_cons (pe_callF c_law_right_tree hr (by first | decide | omega) (pa_cons (pv 0) (pa_cons (pv 1) (pa_cons (pv 16) (pa_cons (pv 3) (pa_cons (pe_callB (call_max2 rfl) (by rfl) T.max bt_max (pa_cons pe_int (pa_cons (pe_op op_sub (pv 4) pe_int) pa_nil))) pa_nil)))))) pa_nil)))))))
    (pss_one (ps_ret (pe_tup (pa_cons pe_str (pa_cons (pv 7) (pa_cons (pv 9) (pa_cons (pe_ix (k_ixL (K := K)) (pv 12) pe_int (fun _ _ => rfl)) (pa_cons (pe_ix (k_ixL (K := K)) (pv 12) pe_int (fun _ _ => rfl)) pa_nil)))))))))))))))))), ?_⟩
    refine q_asgR (er_call (R' := fun H v => ConstV M h0 h1 v) (eda_cons (ed_var rfl h2) (eda_cons (ed_ixL (K := K) (d := .lst (pairsD h0)) (j := 0) (ed_var rfl h3) ed_ci rfl rfl) (eda_cons (ed_ixL (K := K) (d := .lst (pairsD h1)) (j := 1) (ed_var rfl h3) ed_ci rfl rfl) eda_nil))) fun vs H1 e1 r Q' q' => ⟨Z.X, Z.Y, M, h0, h1, by rw [List.append_nil]; exact r, sh, fun p hp => (ho.b0 p hp).1, fun p hp => (ho.b1 p hp).1, fun v H2 e2 c => q' v H2 e2 c⟩) fun v6 H1 e1 hcst => ?_
    have h21 := h2.ex e1
    refine q_asgR (ed_tup (ds := [.int Z.X, .int Z.Y]) (eda_cons (ed_rowsN sh (ed_var rfl h21)) (eda_cons (ed_colsN sh zok.x1 (ed_var rfl h21)) eda_nil)) (by simp)) fun v7 H2 e2 hv7 => ?_
    have e12 := e1.trans e2
    have w2 : W p l H H2 := W.of hh e12
    have fin : ∀ c : Int, v6 = .int c → (∀ p ∈ h0, ∀ q ∈ h1, get2 M p.1 q.1 = c) → ∀ (H3 : Hp) (DD : Ends) (σ3 : L2.St), W p l H2 H3 → DD.rt = Q → σ3[3]? = some (some v4) → σ3[5]? = some (some v6) → σ3[6]? = some (some v7) →
        tRet (tTup (tCons (tC (.str "end")) (tCons (tOp (rRepA K) (tTup (tCons (tOp (rRepA K) (tTup (tCons (tVar 5) tNil)) (tOp (rIxT K) (tVar 3) (tC (.int 0)))) tNil)) (tOp (rIxT K) (tVar 6) (tC (.int 0)))) (tCons (tOp (rRepA K) (tTup (tCons (tOp (rRepA K) (tTup (tCons (tVar 5) tNil)) (tOp (rIxT K) (tVar 3) (tC (.int 1)))) tNil)) (tOp (rIxT K) (tVar 6) (tC (.int 1)))) tNil)))) DD σ3 H3 := by
      intro c ec hc H3 DD σ3 w3 hD g3 g5 g6
      subst ec
      have h43 := h4'.te (w2.trans w3).te rfl
      have h73 := hv7.te w3.te rfl
      have one : ∀ (n k j : Nat), 1 ≤ n → n ≤ 4 → 1 ≤ k → k ≤ 4 → [D.int Z.c0, .int Z.c1][j]? = some (.int k) → [D.int Z.X, .int Z.Y][j]? = some (.int n) → EvD (tOp (rRepA K) (tTup (tCons (tOp (rRepA K) (tTup (tCons (tVar 5) tNil)) (tOp (rIxT K) (tVar 3) (tC (.int (j : Int))))) tNil)) (tOp (rIxT K) (tVar 6) (tC (.int (j : Int))))) σ3 H3 (mat (rep n k c)) := by
        intro n k j n1 n4 k1 k4 ek en
        rw [rep_mat]
        exact ed_rep1 (ed_tup (eda_cons (ed_rep1 (ed_tup (eda_cons (ed_var (d := .int c) g5 rfl) eda_nil) (by simp)) (ed_ixT (j := j) (ed_var g3 h43) ed_ci rfl ek) k1 (by omega)) eda_nil) (by simp)) (ed_ixT (j := j) (ed_var g6 h73) ed_ci rfl en) n1 (by omega)
      have := zok.x4
      have := zok.y1
      have := zok.y4
      have := zok.r1
      have := zok.r3
      have := zok.s1
      have := zok.s3
      refine s_retD (d := Tr.d (.fin (rep Z.X Z.c0 c) (rep Z.Y Z.c1 c))) (ed_tup (ds := [.str "end", mat (rep Z.X Z.c0 c), mat (rep Z.Y Z.c1 c)]) (eda_cons ed_cs (eda_cons (one Z.X Z.c0 0 hpx (by omega) (by omega) (by omega) rfl rfl) (eda_cons (one Z.Y Z.c1 1 (by omega) (by omega) (by omega) (by omega) rfl rfl) eda_nil))) (by simp)) fun v H4 e4 hv => ?_
      rw [hD]
      exact k _ v H4 ((w2.trans w3).trans (W.of w3.h1 e4)) (fin_ok ho hc) hv
    refine q_ifH (fun H3 => W p l H2 H3 ∧ ∃ c : Int, v6 = .int c ∧ ∀ p ∈ h0, ∀ q ∈ h1, get2 M p.1 q.1 = c) (fun H3 => W p l H2 H3 ∧ (0 < depth ∨ v6 = .non)) (fun Q' qt qf => ?_) (fun H3 ⟨w3, c, ec, hc⟩ => fin c ec hc H3 _ _ w3 rfl rfl rfl rfl) (fun H3 ⟨w3, hdn⟩ => ?_)
    · rcases hcst with ⟨e6, _⟩ | ⟨c, e6, hc⟩
      · have key : EvT (tTest (tOp (fun x y H Q => y = V.non ∧ Q (.bl (!decide (x = .non))) H) (tVar 5) (tC .non))) [some (.ref p), some v2, some v3, some v4, some (.int depth), some v6, some v7, none, none, none, none, none, none, none, none, none, none] H2 (!decide (v6 = V.non)) := et_b (ed_notN (ev_var rfl))
        refine key H2 (Ex.refl _) _ fun H3 e3 => ?_
        subst e6
        exact qf H3 ⟨W.of w2.h1 e3, .inr rfl⟩
      · have key : EvT (tTest (tOp (fun x y H Q => y = V.non ∧ Q (.bl (!decide (x = .non))) H) (tVar 5) (tC .non))) [some (.ref p), some v2, some v3, some v4, some (.int depth), some v6, some v7, none, none, none, none, none, none, none, none, none, none] H2 true := et_is (et_b (ed_notN (ev_var rfl))) (by subst e6; simp)
        refine key H2 (Ex.refl _) _ fun H3 e3 => ?_
        have w3 : W p l H2 H3 := W.of w2.h1 e3
        have key2 : EvT (tTest (tOp rEq (tVar 4) (tC (.int 0)))) [some (.ref p), some v2, some v3, some v4, some (.int depth), some v6, some v7, none, none, none, none, none, none, none, none, none, none] H3 (decide ((depth : Int) = 0)) := et_b (ed_eqI (ed_var (d := .int depth) rfl rfl) ed_ci)
        rw [if_pos rfl]
        refine key2 H3 (Ex.refl _) _ fun H4 e4 => ?_
        have w4 : W p l H2 H4 := w3.trans (W.of w3.h1 e4)
        by_cases hdz : (depth : Int) = 0
        · rw [if_pos (by simpa using hdz)]
          exact qt H4 ⟨w4, c, e6, hc⟩
        · rw [if_neg (by simpa using hdz)]
          refine eh_take (p := p) (l := l) (i := 0) (m := 3) (tb := tC (.int 3)) (by rfl) (fun H1 _ => ed_ci) (by decide) H4 (W.refl w4.h1) _ fun u H5 w5 ⟨d, ⟨i, ed, i0, i3⟩, hu⟩ => ?_
          subst ed
          cases (show u = V.int i from hu)
          refine ⟨i, 0, rfl, rfl, decide (i > 0), rfl, ?_⟩
          by_cases hi : i > 0
          · rw [decide_eq_true hi]
            exact qt H5 ⟨w4.trans w5, c, e6, hc⟩
          · rw [decide_eq_false hi]
            exact qf H5 ⟨w4.trans w5, .inl (by omega)⟩
    · refine q_asgH w3.h1 (eh_take (p := p) (l := l) (i := 0) (m := 2) (tb := tC (.int 2)) (by rfl) (fun H1 _ => ed_ci) (by decide)) fun v8 H4 w4 ⟨d8, ⟨i8, ed8, i80, i82⟩, hv8⟩ => ?_
      subst ed8
      cases (show v8 = V.int i8 from hv8)
      obtain ⟨side, rfl⟩ : ∃ side : Nat, i8 = (side : Int) := ⟨i8.toNat, by omega⟩
      have s2 : side < 2 := by omega
      refine q_asgH w4.h1 (eh_take (p := p) (l := l) (i := 0) (m := 4) (tb := tC (.int 4)) (by rfl) (fun H1 _ => ed_ci) (by decide)) fun v9 H5 w5 ⟨d9, ⟨kind, ed9, i90, i94⟩, hv9⟩ => ?_
      subst ed9
      cases (show v9 = V.int kind from hv9)
      have w25 : W p l H2 H5 := w3.trans (w4.trans w5)
      have w05 : W p l H H5 := w2.trans w25
      have szs := sz_le4 zok side
      have cns := cn_le3 zok side
      have szp := sz_pos zok side
      have cnp := cn_pos zok side
      have sizeAt : ∀ (side : Nat) (H6 : Hp) (σ6 : L2.St) (j : Nat), side < 2 → W p l H5 H6 → σ6[6]? = some (some v7) → σ6[j]? = some (some (.int (side : Int))) → EvD (tOp (rIxT K) (tVar 6) (tVar j)) σ6 H6 (.int (Z.sz side)) := fun side H6 σ6 j s2 w6 g6 gj =>
        ed_ixT (j := side) (ed_var g6 (hv7.te (w25.trans w6).te rfl)) (ed_var (d := .int side) gj rfl) rfl (sz_pair s2)
      have coinAt : ∀ (side : Nat) (H6 : Hp) (σ6 : L2.St) (j : Nat), side < 2 → W p l H5 H6 → σ6[3]? = some (some v4) → σ6[j]? = some (some (.int (side : Int))) → EvD (tOp (rIxT K) (tVar 3) (tVar j)) σ6 H6 (.int (Z.cn side)) := fun side H6 σ6 j s2 w6 g6 gj =>
        ed_ixT (j := side) (ed_var g6 (h4'.te (w05.trans w6).te rfl)) (ed_var (d := .int side) gj rfl) rfl (c_pair s2)
      refine q_asgH w5.h1 (eh_bits (p := p) (l := l) (n := Z.sz side) (k := Z.cn side) (m := 2) (by rfl) (fun H6 w6 => sizeAt side H6 _ 7 s2 w6 rfl rfl) (fun H6 w6 => coinAt side H6 _ 7 s2 w6 rfl rfl) (fun H6 _ => ed_ci) (by decide) (by omega) (by omega)) fun v10 H6 w6 ⟨d10, ⟨B0, ed10, hB0⟩, hv10⟩ => ?_
      subst ed10
      refine q_whenM (b := decide (kind = 0)) (fun σ' H' => W p l H5 H' ∧ ∃ (v10 : V) (B : List (List Int)), σ' = [some (.ref p), some v2, some v3, some v4, some (.int depth), some v6, some v7, some (.int side), some (.int kind), some v10, none, none, none, none, none, none, none] ∧ MatB (Z.sz side) (Z.cn side) 2 B ∧ Dat H' (mat B) v10) (et_b (ed_eqI (ed_var (d := .int kind) rfl rfl) ed_ci)) (fun _ H7 e7 N hN => ?_) (fun _ H7 e7 => ⟨w6.trans (W.of w6.h1 e7), v10, B0, rfl, hB0, hv10.ex e7⟩) ?_
      · have w7 : W p l H5 H7 := w6.trans (W.of w6.h1 e7)
        refine eh_rep1 (p := p) (l := l) (n := Z.sz side) (C := Crow (Z.cn side) 2) (eh_tup1 (eh_ix0 (eh_bits (p := p) (l := l) (i := 0) (n := 1) (k := Z.cn side) (m := 2) (by rfl) (fun H8 w8 => ed_ci) (fun H8 w8 => coinAt side H8 _ 7 s2 (w7.trans w8) (by rfl) (by rfl)) (fun H8 _ => ed_ci) (by decide) (by decide) (by omega)) fun d hd => ?_)) (fun H8 w8 => sizeAt side H8 _ 7 s2 (w7.trans w8) (by rfl) (by rfl)) szp (by omega) H7 (W.refl w7.h1) _ fun u H8 w8 ⟨d, ⟨d', ed, r, ed', hr1, hr2⟩, hu⟩ => hN _ _ ⟨w7.trans w8, u, List.replicate (Z.sz side) r, rfl, ⟨⟨by simp, fun x hx => ?_⟩, fun x hx => ?_⟩, ?_⟩
        · obtain ⟨M', rfl, hM'⟩ := hd
          have hl := hM'.1.1
          cases M' with
          | nil => cases hl
          | cons r M' => exact ⟨_, .tup (r.map D.int), rfl, rfl, r, rfl, hM'.1.2 r List.mem_cons_self, hM'.2 r List.mem_cons_self⟩
        · rw [List.eq_of_mem_replicate hx]; exact hr1
        · rw [List.eq_of_mem_replicate hx]; exact hr2
        · subst ed ed'
          have : mat (List.replicate (Z.sz side) r) = .tup (List.replicate (Z.sz side) (.tup (r.map D.int))) := by simp [mat, List.map_replicate]
          rw [this]
          exact hu
      · rintro σ' H7 ⟨w7, v10, B, rfl, hB, hv10⟩
        have h37 : Dat H7 (hereD h0 h1) v3 := here_keep (w05.trans w7) h3
        refine q_whenM (b := decide ((depth : Int) = 0) || (decide (kind > 1) && decide (v6 = .non))) (fun σ' H' => W p l H7 H' ∧ ∃ (side : Nat) (v10 : V) (o10 : Option V) (B : List (List Int)), σ' = [some (.ref p), some v2, some v3, some v4, some (.int depth), some v6, some v7, some (.int side), some (.int kind), some v10, o10, none, none, none, none, none, none] ∧ side < 2 ∧ MatB (Z.sz side) (Z.cn side) 2 B ∧ Dat H' (mat B) v10 ∧ Near side h0 h1 depth B)
          (et_or (et_b (ed_eqI (ed_var (d := .int depth) rfl rfl) ed_ci)) (fun _ => et_and (et_b (ed_B0 (g := fun i j => decide (i > j)) (ed_var (d := .int kind) rfl rfl) ed_ci)) (fun _ => et_b (ed_isN (ev_var rfl))))) (fun hb H8 e8 N hN => ?_) (fun hb H8 e8 => ⟨W.of w7.h1 e8, side, v10, none, B, rfl, s2, hB, hv10.ex e8, .inl (by
            rw [Bool.or_eq_false_iff] at hb
            have := of_decide_eq_false hb.1
            omega)⟩) ?_
        · have w8 : W p l H7 H8 := W.of w7.h1 e8
          have hnon : v6 = .non := by
            rcases hdn with h | h
            · rw [Bool.or_eq_true, Bool.and_eq_true] at hb
              rcases hb with hb | hb
              · have := of_decide_eq_true hb; omega
              · exact of_decide_eq_true hb.2
            · exact h
          have two : 2 ≤ inpN h0 ∨ 2 ≤ inpN h1 := by
            rcases hcst with ⟨_, h⟩ | ⟨c, h, _⟩
            · exact two_inputs h
            · rw [hnon] at h; cases h
          have w08 := (w05.trans w7).trans w8
          refine ⟨_, rfl, _, rfl, _, rfl, p, l, Z, M, h0, h1, v2, v3, rfl, w8.h1, h2.te w08.te (mat_T M), h37.ex e8, sh, ho, two, fun side said v H9 w9 ⟨s2, q1, q2, q3⟩ hv => ?_⟩
          refine g_unl hv fun u1 u2 hu1 hu2 => ?_
          cases (show u1 = V.int (side : Int) from hu1)
          have w59 : W p l H5 H9 := (w7.trans w8).trans w9
          refine s_asgR (ed_tupleL (ds := (List.range (Z.sz side)).map fun x => D.tup (List.replicate (Z.cn side) (.int (if x ∈ said then 1 else 0)))) (EvN.toD (er_lcR (f := fun x => D.tup (List.replicate (Z.cn side) (.int (if x ∈ said then 1 else 0)))) (sizeAt side H9 _ 7 s2 w59 rfl rfl) (by have := sz_le4 zok side; omega) (fun x => ?_) (fun _ => rfl) (fun x H10 e10 hx => ?_)))) fun v H10 e10 hv => hN _ _ ⟨w8.trans (w9.trans (W.of w9.h1 e10)), side, v, _, saidB (Z.sz side) (Z.cn side) said, rfl, s2, saidB_ok _ _ _, ?_, said_near (here_bd ho side) q1 q2 q3⟩
          · have : (List.replicate (Z.cn side) (D.int (if x ∈ said then 1 else 0))) = (List.replicate (Z.cn side) (if x ∈ said then (1 : Int) else 0)).map D.int := by rw [List.map_replicate]
            rw [this]
            exact TL_ints _
          · refine ed_rep1 (ed_tup (eda_cons (ed_is (ed_intB (b := decide (x ∈ said)) (ed_inN (ed_var (d := .int x) rfl rfl) (ed_var rfl (hu2.ex e10)))) ?_) eda_nil) (by simp)) (coinAt side H10 _ 7 s2 (w59.trans (W.of w9.h1 e10)) rfl rfl) (cn_pos zok side) (by have := cn_le3 zok side; omega)
            congr 1
            by_cases h : x ∈ said
            · simp [h]
            · simp [h]
          · have : mat (saidB (Z.sz side) (Z.cn side) said) = .tup ((List.range (Z.sz side)).map fun x => D.tup (List.replicate (Z.cn side) (.int (if x ∈ said then 1 else 0)))) := by
              simp only [mat, saidB, List.map_map]
              congr 1
              apply List.map_congr_left
              intro x _
              show D.tup ((List.replicate _ _).map D.int) = _
              rw [List.map_replicate]
            rw [this]
            exact hv
        · rintro σ' H8 ⟨w8, side, v10, o10, B, rfl, s2, hB, hv10, near⟩
          have w08 : W p l H H8 := (w05.trans w7).trans w8
          have h38 : Dat H8 (hereD h0 h1) v3 := here_keep w8 h37
          refine q_asgN (ds := []) (en_lst eda_nil (by simp)) fun q vs H9 q0 e9 hq hvs => ?_
          have evs : vs = [] := hvs
          subst evs
          have nqp : q ≠ p := (w8.h1.fresh q0).1
          have w9 : W p l H8 H9 := W.of w8.h1 e9
          let kid : Nat → List (Nat × Nat) × List (Nat × Nat) := fun i => subs side h0 h1 (bitF B i (pick side h0 h1))
          refine q_forR (n := 2) ed_ci (by decide) (fun i σ' H' => W p l H8 H' ∧ ∃ (ts : List Tr) (vs : List V) (o13 o14 o16 : Option V), σ' = [some (.ref p), some v2, some v3, some v4, some (.int depth), some v6, some v7, some (.int side), some (.int kind), some v10, o10, none, some (.ref q), o13, o14, none, o16] ∧ H' q = some (.lst vs) ∧ DatL H' (ts.map Tr.d) vs ∧ ts.length = i ∧ ∀ j t, ts[j]? = some t → TreeOk Z M (kid j).1 (kid j).2 (depth - 1) t)
            (fun H10 e10 => ⟨w9.trans (W.of w9.h1 e10), [], [], none, none, none, rfl, e10 _ _ hq, rfl, rfl, fun j t z => by simp at z⟩) ?_ ?_
          · rintro i σ' H10 hi ⟨w10, ts, vs, o13, o14, o16, rfl, hq10, hvs10, htl, hts⟩
            have w010 : W p l H H10 := w08.trans w10
            have h310 := here_keep w010 h3
            have hl100 := here_len ho side
            have hv1010 := hv10.te w10.te (mat_T B)
            refine q_asgN (EvN.is (er_lcF (ds := pairsD (pick side h0 h1)) (b := bitD B i) (ed_ixL (K := K) (j := side) (ed_var rfl h310) (ed_var (d := .int side) rfl rfl) rfl (here_ix s2)) (by rw [List.length_map]; omega) (pairsD_T _) (fun _ => rfl) (fun j d v H11 e11 hj hdv => ?_) (fun v H11 => ev_var rfl)) (bitD_filter B i _)) fun a us H11 a0 e11 ha hus => ?_
            · rw [List.getElem?_map] at hj
              obtain ⟨pr, hpr, rfl⟩ := Option.map_eq_some_iff.mp hj
              have hprm : pr ∈ pick side h0 h1 := List.mem_of_getElem? hpr
              have bd := here_bd ho side pr hprm
              have hdv' : Dat H11 (.tup [.int pr.1, .int pr.2]) v := hdv
              exact et_b (ed_is (ed_eqI (ed_cell (i := pr.1) (j := pr.2) (ed_var rfl (hv1010.ex e11)) (ed_ixT (K := K) (j := 0) (ed_var rfl hdv') ed_ci rfl rfl) (ed_ixT (K := K) (j := 1) (ed_var rfl hdv') ed_ci rfl rfl) hB.1 bd.1 bd.2 rfl rfl) (ed_var (d := .int i) rfl rfl)) rfl)
            · have w11 : W p l H8 H11 := w10.trans (W.of w10.h1 e11)
              have h311 := h310.ex e11
              have hda : Dat H11 (.lst (pairsD (bitF B i (pick side h0 h1)))) (.ref a) := Dat.lst ha hus
              refine q_asgR (R := fun H v => Dat H (hereD (kid i).1 (kid i).2) v) ?_ fun v16 H12 e12 hv16 => ?_
              · refine ed_ixL (K := K) (ds := [hereD (bitF B i (pick side h0 h1)) h1, hereD h0 (bitF B i (pick side h0 h1))]) (i := (side : Int)) (j := side) (ed_lst (eda_cons (ed_lst (eda_cons (ed_var rfl hda) (eda_cons (ed_ixL (K := K) (d := .lst (pairsD h1)) (j := 1) (ed_var rfl h311) ed_ci rfl rfl) eda_nil)) (by simp)) (eda_cons (ed_lst (eda_cons (ed_ixL (K := K) (d := .lst (pairsD h0)) (j := 0) (ed_var rfl h311) ed_ci rfl rfl) (eda_cons (ed_var rfl hda) eda_nil)) (by simp)) eda_nil)) (by simp)) (ed_var (d := .int side) rfl rfl) rfl ?_
                rcases (by omega : side = 0 ∨ side = 1) with e | e
                · subst e; rfl
                · subst e; rfl
              · have e1012 := e11.trans e12
                have w12 : W p l H8 H12 := w11.trans (W.of w11.h1 e12)
                have w012 := w08.trans w12
                have hq12 := e1012 _ _ hq10
                have lvs := hvs10.length
                rw [List.length_map] at lvs
                have ndm := near_dm near hi
                refine s_appH (p := p) (l := l) (R := fun H v => ∃ t, TreeOk Z M (kid i).1 (kid i).2 (depth - 1) t ∧ Dat H (Tr.d t) v) w12.h1 hq12 nqp (ev_var rfl) (fun H13 w13 Q' q' => ?_) (by omega) fun v H13 w13 ⟨t, ht, hv⟩ hq13 => ?_
                · have w013 := w012.trans w13
                  refine ⟨_, rfl, _, rfl, _, rfl, _, rfl, ?_⟩
                  have mx : EvD (tCB rMax2 (tCons (tC (.int 0)) (tCons (tOp (rI0 fun i j => .int (i - j)) (tVar 4) (tC (.int 1))) tNil))) [some (.ref p), some v2, some v3, some v4, some (.int depth), some v6, some v7, some (.int side), some (.int kind), some v10, o10, none, some (.ref q), some (.int i), some (.ref a), none, some v16] H13 (.int ((depth - 1 : Nat) : Int)) := ed_i (ev_is (ev_max2 ev_c (ev_op (ev_var rfl) ev_c rv_I0)) (by
                    congr 1
                    split <;> omega))
                  refine ev_i mx H13 (Ex.refl _) _ fun H14 e14 => ?_
                  have w14 : W p l H13 H14 := W.of w13.h1 e14
                  exact ⟨p, l, Z, M, (kid i).1, (kid i).2, depth - 1, v2, v16, v4, rfl, w14.h1, h2.te (w013.trans w14).te (mat_T M), here_keep (w13.trans w14) hv16, h4.te (w013.trans w14).te rfl, zok, sh, here_sub ho side i B, by have h5 : dm (kid i).1 (kid i).2 (depth - 1) + 1 ≤ dm h0 h1 depth := ndm; omega, by omega, fun t v H15 w15 ht hv => q' v H15 (w14.trans w15) ⟨t, ht, hv⟩⟩
                · have te : TE H13 (upd H13 q (.lst (vs ++ [v]))) := TE.upd hq13
                  refine ⟨(w12.trans w13).mut q0, ts ++ [t], vs ++ [v], _, _, _, rfl, upd_same, ?_, by rw [List.length_append, htl]; rfl, fun j t' hj => ?_⟩
                  · rw [List.map_append]
                    exact ((hvs10.ex e1012).te (w13.te.trans te) (TL_map _ Tr.dT _)).snoc (hv.te te (Tr.dT t))
                  · by_cases hlt : j < ts.length
                    · rw [List.getElem?_append_left hlt] at hj
                      exact hts j t' hj
                    · rw [List.getElem?_append_right (by omega)] at hj
                      have hk0 : j - ts.length = 0 := by
                        have := (List.getElem?_eq_some_iff.mp hj).1
                        simp at this
                        omega
                      rw [hk0] at hj
                      cases hj
                      have : j = i := by omega
                      rw [this]
                      exact ht
          · rintro σ' H10 ⟨w10, ts, vs, o13, o14, o16, rfl, hq10, hvs10, htl, hts⟩
            cases ts with
            | nil => cases htl
            | cons f ts =>
              cases ts with
              | nil => cases htl
              | cons g ts =>
                cases ts with
                | cons _ _ => simp at htl
                | nil =>
                  have hf := hts 0 f rfl
                  have hg := hts 1 g rfl
                  have hdq : Dat H10 (.lst [f.d, g.d]) (.ref q) := Dat.lst hq10 hvs10
                  refine s_retD (d := Tr.d (.say side B f g)) (ed_tup (ds := [.str "say", .int side, mat B, f.d, g.d]) (eda_cons ed_cs (eda_cons (ed_var (d := .int side) rfl rfl) (eda_cons (ed_var rfl (hv10.te w10.te (mat_T B))) (eda_cons (ed_ixL (K := K) (j := 0) (ed_var rfl hdq) ed_ci rfl rfl) (eda_cons (ed_ixL (K := K) (j := 1) (ed_var rfl hdq) ed_ci rfl rfl) eda_nil))))) (by simp)) fun v H11 e11 hv => k _ v H11 ((w08.trans w10).trans (W.of w10.h1 e11)) (say_ok s2 ho hB near hf hg) hv
end
end JH
set_option Elab.async false
set_option maxRecDepth 100000
set_option maxHeartbeats 4000000
/-! the right talk, the law -/
namespace JH
open PySem PySem.Spec PyProof.Rows L2 Evl
def rowP (c x : Nat) : List (Nat × Nat) := (List.range c).map fun r => (x, r)
def allP (n c : Nat) : List (Nat × Nat) := (List.range n).flatMap (rowP c)
theorem mem_allP {n c : Nat} {p : Nat × Nat} : p ∈ allP n c ↔ p.1 < n ∧ p.2 < c := by
  unfold allP rowP
  rw [List.mem_flatMap]
  constructor
  · rintro ⟨x, hx, hp⟩
    obtain ⟨r, hr, rfl⟩ := List.mem_map.mp hp
    exact ⟨List.mem_range.mp hx, List.mem_range.mp hr⟩
  · rintro ⟨h1, h2⟩
    exact ⟨p.1, List.mem_range.mpr h1, List.mem_map.mpr ⟨p.2, List.mem_range.mpr h2, rfl⟩⟩
theorem rowP_len (c x : Nat) : (rowP c x).length ≤ c := by simp [rowP]
theorem allP_len (n c : Nat) : (allP n c).length ≤ n * c := flat_len (fun x => rowP_len c x) n
theorem allP_inp (n c : Nat) : inpN (allP n c) ≤ n := by
  have : inpN (allP n c) ≤ (List.range n).length := len_of_sub (inpL_nodup _) fun x hx => by
    obtain ⟨r, hr⟩ := mem_inpL.mp hx
    exact List.mem_range.mpr (mem_allP.mp hr).1
  simpa using this
theorem all_here {Z : Sz} (z : Z.Ok) : HereOk Z (allP Z.X Z.c0) (allP Z.Y Z.c1) where
  b0 := fun p hp => mem_allP.mp hp
  b1 := fun p hp => mem_allP.mp hp
  l0 := by
    have := allP_len Z.X Z.c0
    have := z.x4
    have := z.r3
    have : Z.X * Z.c0 ≤ 4 * 3 := Nat.mul_le_mul z.x4 z.r3
    omega
  l1 := by
    have := allP_len Z.Y Z.c1
    have : Z.Y * Z.c1 ≤ 4 * 3 := Nat.mul_le_mul z.y4 z.s3
    omega
theorem all_dm {Z : Sz} (z : Z.Ok) {depth : Nat} (h : depth ≤ 2) : dm (allP Z.X Z.c0) (allP Z.Y Z.c1) depth ≤ 8 := by
  have := allP_inp Z.X Z.c0
  have := allP_inp Z.Y Z.c1
  have := z.x4
  have := z.y4
  unfold dm
  omega
def sp_talk : Sp := fun vs H Q _ => ∃ (p l : Addr) (X Y : Nat) (M : List (List Int)) (depth : Nat) (v2 : V), vs = [.ref p, v2, .int depth] ∧ HandAt p l H ∧ Dat H (mat M) v2 ∧ Sh X Y M ∧ 1 ≤ X ∧ X ≤ 4 ∧ 1 ≤ Y ∧ Y ≤ 4 ∧ depth ≤ 2 ∧
  ∀ (a : TalkA) v H', W p l H H' → a.Right → a.M = M → Dat H' (talkD a.Z a.t) v → Q v H'
def spLaw (K : PySem.W.Frag) : Sp := fun vs H Q _ => ∃ (a : Addr) (ns : List Int), vs = [.ref a] ∧ SqL K H a (ns.map V.int) ∧ ns.length ≤ 63 ∧ ∀ H', Q (.bl true) H'
section
variable {K : PySem.W.Frag} {p l : Addr} {σ : L2.St} {H H' : Hp} {ta tb tc tl te : L2.TE} {DD : Ends} {tu tz : TS} {g : TG} {t : TT}
/-- (1 + take, 1 + take) -/
theorem eh_two {i m : Nat} (h0 : σ[i]? = some (some (.ref p))) (hm : ∀ H1, W p l H H1 → EvD tb σ H1 (.int m)) (m0 : 0 < m) :
    EvHD p l (tTup (tCons (tOp (rI0 fun i j => .int (i + j)) (tC (.int 1)) (tCall sp_take [] E0 (tCons (tVar i) (tCons tb tNil)))) (tCons (tOp (rI0 fun i j => .int (i + j)) (tC (.int 1)) (tCall sp_take [] E0 (tCons (tVar i) (tCons tb tNil)))) tNil))) σ H (fun d => ∃ a b : Nat, d = pairD a b ∧ 1 ≤ a ∧ a ≤ m ∧ 1 ≤ b ∧ b ≤ m) := fun H1 w Q q => by
  refine eh_take (p := p) (l := l) (m := m) h0 hm m0 H1 w _ fun v H2 w2 ⟨d, ⟨x, ed, x0, x1⟩, hv⟩ => ?_
  subst ed
  cases (show v = V.int x from hv)
  refine ⟨1, x, rfl, rfl, ?_⟩
  refine eh_take (p := p) (l := l) (m := m) h0 hm m0 H2 (w.trans w2) _ fun v H3 w3 ⟨d, ⟨y, ed, y0, y1⟩, hv⟩ => ?_
  subst ed
  cases (show v = V.int y from hv)
  refine ⟨1, y, rfl, rfl, sz_of (by simp), fun r hr => q _ _ ((w2.trans w3).trans (W.of w3.h1 (Ex.new hr))) ⟨pairD (1 + x.toNat) (1 + y.toNat), ⟨_, _, rfl, by omega, by omega, by omega, by omega⟩, ?_⟩⟩
  have e1 : (1 : Int) + x = ((1 + x.toNat : Nat) : Int) := by omega
  have e2 : (1 : Int) + y = ((1 + y.toNat : Nat) : Int) := by omega
  show Dat (L2.upd H3 r (HO.tup [V.int (1 + x), V.int (1 + y)])) _ _
  rw [e1, e2]
  exact Dat.tup upd_same ⟨_, _, rfl, rfl, ⟨_, _, rfl, rfl, rfl⟩⟩
end
section
variable {K : PySem.W.Frag} {p l : Addr} {σ : L2.St} {H H' : Hp} {ta : L2.TE} {DD : Ends} {tu tz : TS} {g : TG}
/-- a list in turn, the hand in use -/
theorem q_forH {i : Nat} {q : Addr} {us : List V} (h : σ[i]? = some (some (.ref q))) (hq : H q = some (.lst us)) (hqp : q ≠ p) (hh : HandAt p l H) (Pv : Nat → L2.St → Prop) (h0 : Pv 0 σ)
    (hs : ∀ (j : Nat) v σ' H', us[j]? = some v → W p l H H' → Pv j σ' → g v σ' H' fun σ2 H2 => tu { DD with nx := fun σ3 H3 => W p l H H3 ∧ Pv (j + 1) σ3, ct := fun σ3 H3 => W p l H H3 ∧ Pv (j + 1) σ3, bk := tz DD } σ2 H2)
    (hd : ∀ σ' H', W p l H H' → Pv us.length σ' → tz DD σ' H') : tSeq (tFor (iList K (tVar i)) g tu) tz DD σ H :=
  ⟨_, h, q, rfl, ⟨_, SqL.of hq⟩, for_list (D := { DD with nx := tz DD }) (xs := us) (fun j σ' H' => W p l H H' ∧ Pv j σ') ⟨W.refl hh, h0⟩ (fun j σ' H' _ pp => SqL.of (pp.1.ex q _ hqp hq)) (fun j x σ' H' hi pp => hs j x σ' H' hi pp.1 pp.2) (fun σ' H' pp => hd σ' H' pp.1 pp.2)⟩
theorem hs_sIx {n : Nat} (h : 4 = n) : HT.sIx n 0 none = 0 ∧ HT.sIx n n (some 1) = 1 := by subst h; decide
theorem cut1 {xs : List V} (h : xs.length = 4) : cutV xs none (some 1) = xs.take 1 := by
  unfold cutV
  have := hs_sIx h.symm
  rw [this.1, this.2]
  simp
theorem ed_sl1 {ds : List D} (h : EvD ta σ H (.lst ds)) (hl : ds.length = 4) : EvD (tSl (rSlL K) ta tNoPart (tPart (tC (.int 1)))) σ H (.lst (ds.take 1)) := fun H1 e Q q =>
  h H1 e _ fun v H2 e2 ⟨a, vs, ev, hv, hd⟩ => ⟨1, rfl, a, vs, ev, SqL.of hv, fun r hr => q _ _ (e2.trans (Ex.new hr)) (by
    rw [cut1 (by rw [hd.length]; exact hl)]
    exact Dat.lst upd_same ((hd.take 1).ex (Ex.new hr)))⟩
end
/-- a list of pairs that stands elsewhere than q -/
def LPx (H : Hp) (q : Addr) (ps : List (Nat × Nat)) (v : V) : Prop := ∃ a ws, v = .ref a ∧ a ≠ q ∧ H a = some (.lst ws) ∧ DatL H (pairsD ps) ws
theorem LPx.ex {H H' : Hp} {q : Addr} {ps : List (Nat × Nat)} {v : V} (e : Ex H H') (h : LPx H q ps v) : LPx H' q ps v := by
  obtain ⟨a, ws, h1, h2, h3, h4⟩ := h
  exact ⟨a, ws, h1, h2, e _ _ h3, h4.ex e⟩
theorem LPx.upd {H : Hp} {q : Addr} {ps : List (Nat × Nat)} {v : V} {xs : List V} {o : HO} (hq : H q = some (.lst xs)) (h : LPx H q ps v) : LPx (L2.upd H q o) q ps v := by
  obtain ⟨a, ws, h1, h2, h3, h4⟩ := h
  exact ⟨a, ws, h1, h2, by rw [upd_ne h2]; exact h3, h4.te (TE.upd hq) (pairsD_T _)⟩
theorem LPx.dat {H : Hp} {q : Addr} {ps : List (Nat × Nat)} {v : V} (h : LPx H q ps v) : Dat H (.lst (pairsD ps)) v := by
  obtain ⟨a, ws, rfl, h2, h3, h4⟩ := h
  exact Dat.lst h3 h4
section
variable {P : Program} {w : World} {K : PySem.W.Frag} {mg : Str → Option Value} {base : Heap} {C : Addr}
abbrev K_law_right_talk (P : Program) (w : World) (K : PySem.W.Frag) (mg : Str → Option Value) (base : Heap) : Prop := Fk P w K mg base "_law_right_talk" ["_law_hand", "_law_table_here", "_law_depth"] 14 sp_talk
theorem sc_law_right_talk : FnScope ["_law_hand", "_law_table_here", "_law_depth", "_law_most", "_law_coins", "_law_here", "_law_side", "_law_pairs", "_law_one", "_law_coin"] ["_law_hand", "_law_table_here", "_law_depth"] (defScope s_law_right_talk) := ⟨rfl, rfl, rfl, by decide +kernel, rfl, by decide +kernel, by decide +kernel⟩
theorem ok_law_right_talk {f : Addr} {fd : FuncData} (F : FnP K "_law_right_talk" "_law_right_talk" s_law_right_talk f fd) (T : Txt mg) (c_law_take : K_law_take P w K mg base) (c_law_right_tree : K_law_right_tree P w K mg base 9) : FnOk P w K mg base CX0 14 f fd ["_law_hand", "_law_table_here", "_law_depth"] (sp_talk) := by
  refine FunD.ok F sc_law_right_talk (fun vs H Q E h => ?_) (fun cdv A outer s H vs Q E hr h => ?_)
  · obtain ⟨p, l, X, Y, M, depth, v2, rfl, _⟩ := h
    rfl
  · obtain ⟨p, l, X, Y, M, depth, v2, rfl, hh, h2, sh, x1, x4, y1, y4, hd2, k⟩ := h
    refine ⟨_, PSs.nox (pss_cons (psv 3 sc_law_right_talk.nd (pe_ix (k_ixL (K := K)) (pe_lst (pa_cons pe_int (pa_cons pe_int pa_nil))) (pe_callTy call_int1 (by rfl) T.int bt_int (pa_cons (pe_cmpR op_lt (pe_op op_mul (pe_callB (k_len (K := K)) (by rfl) T.len bt_len (pa_cons (pv 1) pa_nil)) (pe_callB (k_len (K := K)) (by rfl) T.len bt_len (pa_cons (pe_ix (k_ixT (K := K)) (pv 1) pe_int (fun _ _ => rfl)) pa_nil))) pe_int (nomark _)) pa_nil)) (fun _ _ => rfl)))
    (pss_cons (psv 4 sc_law_right_talk.nd (pe_tup (pa_cons (pe_op op_add pe_int (pe_callF c_law_take hr (by first | decide | omega) (pa_cons (pv 0) (pa_cons (pv 3) pa_nil)))) (pa_cons (pe_op op_add pe_int (pe_callF c_law_take hr (by first | decide | omega) (pa_cons (pv 0) (pa_cons (pv 3) pa_nil)))) pa_nil))))
    (pss_cons (psv 5 sc_law_right_talk.nd (pe_lst pa_nil))
    (pss_cons (ps_for PassesOwn.never (by rfl) (pi_range1 (by rfl) T.range (pa_cons pe_int pa_nil)) (pgv 6 sc_law_right_talk.nd)
    (pss_cons (psv 7 sc_law_right_talk.nd (pe_lst pa_nil))
    (pss_cons (ps_for PassesOwn.never (by rfl) (pi_range1 (by rfl) T.range (pa_cons (pe_ix (k_ixL (K := K)) (pe_lst (pa_cons (pe_callB (k_len (K := K)) (by rfl) T.len bt_len (pa_cons (pv 1) pa_nil)) (pa_cons (pe_callB (k_len (K := K)) (by rfl) T.len bt_len (pa_cons (pe_ix (k_ixT (K := K)) (pv 1) pe_int (fun _ _ => rfl)) pa_nil)) pa_nil))) (pv 6) (fun _ _ => rfl)) pa_nil)) (pgv 8 sc_law_right_talk.nd)
    (pss_one (psv 7 sc_law_right_talk.nd (pe_op op_cat (pv 7) (pe_lc (own := [("_law_coin", 9)]) (by rfl) sc_law_right_talk.nd (pi_range1 (by rfl) T.range (pa_cons (pe_ix (k_ixT (K := K)) (pv 4) (pv 6) (fun _ _ => rfl)) pa_nil)) (blkOk_by (by kernel_rfl)) (fun _ _ _ _ _ => (pgv 9 sc_law_right_talk.nd)) (fun _ _ _ _ _ => pts_nil) (fun _ _ _ _ _ => (pe_tup (pa_cons (pv 8) (pa_cons (pv 9) pa_nil)))))))))
    (pss_one (ps_expr (k_append (K := K) (pv 5) (pa_cons (pv 7) pa_nil)))))))
    (pss_one (ps_ret (pe_tup (pa_cons pe_str (pa_cons (pe_ix (k_ixT (K := K)) (pv 4) pe_int (fun _ _ => rfl)) (pa_cons (pe_ix (k_ixT (K := K)) (pv 4) pe_int (fun _ _ => rfl)) (pa_cons (pe_callF c_law_right_tree hr (by first | decide | omega) (pa_cons (pv 0) (pa_cons (pv 1) (pa_cons (pv 5) (pa_cons (pv 4) (pa_cons (pv 2) pa_nil)))))) pa_nil))))))))))), ?_⟩
    refine q_asgR (R := fun H v => ∃ m : Nat, v = .int m ∧ 1 ≤ m ∧ m ≤ 3) ?_ fun v3 H1 e1 ⟨m, em, m1, m3⟩ => ?_
    · have ix : ∀ b : Bool, b = decide ((X : Int) * (Y : Int) < 7) → EvR (tOp (rIxL K) (tLst (tCons (tC (.int 2)) (tCons (tC (.int 3)) tNil))) (tCB rInt1 (tCons (tOp (rI0 fun i j => .bl (decide (i < j))) (tOp (rI CMul fun i j => .int (i * j)) (tCB (rLenS K) (tCons (tVar 1) tNil)) (tCB (rLenS K) (tCons (tOp (rIxT K) (tVar 1) (tC (.int 0))) tNil))) (tC (.int 7))) tNil))) [some (.ref p), some v2, some (.int depth), none, none, none, none, none, none, none] H (fun H v => ∃ m : Nat, v = .int m ∧ 1 ≤ m ∧ m ≤ 3) := by
        intro b eb
        have hb : EvD (tCB rInt1 (tCons (tOp (rI0 fun i j => .bl (decide (i < j))) (tOp (rI CMul fun i j => .int (i * j)) (tCB (rLenS K) (tCons (tVar 1) tNil)) (tCB (rLenS K) (tCons (tOp (rIxT K) (tVar 1) (tC (.int 0))) tNil))) (tC (.int 7))) tNil)) [some (.ref p), some v2, some (.int depth), none, none, none, none, none, none, none] H (.int (if b then 1 else 0)) := by
          rw [eb]
          exact ed_intB (ed_B0 (g := fun i j => decide (i < j)) (ed_I (g := fun i j => i * j) (ed_rowsN sh (ed_var rfl h2)) (ed_colsN sh x1 (ed_var rfl h2)) (.inr ⟨by omega, by omega⟩)) ed_ci)
        cases b with
        | true => exact (ed_ixL (ds := [.int 2, .int 3]) (d := .int 3) (j := 1) (ed_lst (eda_cons ed_ci (eda_cons ed_ci eda_nil)) (by simp)) hb rfl rfl).imp fun H v _ hv => ⟨3, hv, by decide, by decide⟩
        | false => exact (ed_ixL (ds := [.int 2, .int 3]) (d := .int 2) (j := 0) (ed_lst (eda_cons ed_ci (eda_cons ed_ci eda_nil)) (by simp)) hb rfl rfl).imp fun H v _ hv => ⟨2, hv, by decide, by decide⟩
      exact ix _ rfl
    subst em
    refine q_asgH (hh.ex e1) (eh_two (p := p) (l := l) (m := m) (by rfl) (fun H2 w2 => ed_var (d := .int m) (by rfl) rfl) m1) fun v4 H2 w2 ⟨d, ⟨c0, c1, ed, c01, c0m, c11, c1m⟩, hv4⟩ => ?_
    subst ed
    have w02 : W p l H H2 := (W.of hh e1).trans w2
    have h22 := h2.te w02.te (mat_T M)
    let Z : Sz := ⟨X, Y, c0, c1⟩
    have zok : Z.Ok := ⟨x1, x4, y1, y4, c01, by show c0 ≤ 3; omega, c11, by show c1 ≤ 3; omega⟩
    have hv4' : Dat H2 (.tup [.int c0, .int c1]) v4 := hv4
    refine q_asgN (ds := []) (en_lst eda_nil (by simp)) fun q vs H3 q0 e3 hq hvs => ?_
    have evs : vs = [] := hvs
    subst evs
    refine q_forR (n := 2) ed_ci (by decide) (fun i σ' H' => Ex H2 H' ∧ ∃ (vs : List V) (o6 o7 o8 : Option V), σ' = [some (.ref p), some v2, some (.int depth), some (.int m), some v4, some (.ref q), o6, o7, o8, none] ∧ H' q = some (.lst vs) ∧ vs.length = i ∧ ∀ j v, vs[j]? = some v → LPx H' q (allP (Z.sz j) (Z.cn j)) v) (fun H4 e4 => ⟨e3.trans e4, [], none, none, none, rfl, e4 _ _ hq, rfl, fun j v z => by simp at z⟩) ?_ ?_
    · rintro side σ' H4 s2 ⟨ex4, vs, o6, o7, o8, rfl, hq4, hvl, hvs⟩
      refine q_asgN (ds := []) (en_lst eda_nil (by simp)) fun a as H5 a0 e5 ha has => ?_
      have eas : as = [] := has
      subst eas
      have naq : a ≠ q := fun z => by rw [z, hq4] at a0; cases a0
      have ex5 := ex4.trans e5
      have ixs : [D.int X, .int Y][side]? = some (.int (Z.sz side)) := sz_pair (Z := Z) s2
      have ixc : [D.int c0, .int c1][side]? = some (.int (Z.cn side)) := c_pair (Z := Z) s2
      have szs := sz_le4 zok side
      have cns := cn_le3 zok side
      refine q_forR (n := Z.sz side) (ed_ixL (K := K) (ds := [.int X, .int Y]) (i := (side : Int)) (j := side) (ed_lst (eda_cons (ed_rowsN sh (ed_var rfl (h22.ex ex5))) (eda_cons (ed_colsN sh x1 (ed_var rfl (h22.ex ex5))) eda_nil)) (by simp)) (ed_var (d := .int side) rfl rfl) rfl ixs) (by omega) (fun i σ' H' => Ex H5 H' ∧ ∃ (f : V) (o8 : Option V), σ' = [some (.ref p), some v2, some (.int depth), some (.int m), some v4, some (.ref q), some (.int side), some f, o8, none] ∧ LPx H' q ((List.range i).flatMap (rowP (Z.cn side))) f) (fun H6 e6 => ⟨e6, .ref a, _, rfl, a, [], rfl, naq, e6 _ _ ha, rfl⟩) ?_ ?_
      · rintro one σ' H6 ho ⟨ex6, f, o8, rfl, hf⟩
        have lenF := flat_len (fun x => rowP_len (Z.cn side) x) one
        have hq6 := ex6 _ _ (e5 _ _ hq4)
        have lenR := rowP_len (Z.cn side) one
        have bound : one * Z.cn side ≤ 4 * 3 := Nat.mul_le_mul (by omega) cns
        refine s_asgN (en_cat (a := pairsD ((List.range one).flatMap (rowP (Z.cn side)))) (b := pairsD (rowP (Z.cn side) one)) (ed_var rfl hf.dat) (EvN.toD (EvN.is (er_lcR (f := fun r => pairD one r) (n := Z.cn side) (ed_ixT (K := K) (j := side) (ed_var rfl (hv4'.ex (ex5.trans ex6))) (ed_var (d := .int side) rfl rfl) rfl ixc) (by omega) (fun _ => rfl) (fun _ => rfl) (fun r H7 e7 hr => ed_tup (eda_cons (ed_var (d := .int one) rfl rfl) (eda_cons (ed_var (d := .int r) rfl rfl) eda_nil)) (by simp))) (by simp [pairsD, rowP, List.map_map]))) (by rw [List.length_map, List.length_map]; omega)) fun b bs H7 b0 e7 hb hbs => ⟨ex6.trans e7, .ref b, _, rfl, b, bs, rfl, (fun z => by rw [z, hq6] at b0; cases b0), hb, ?_⟩
        rw [flat_snoc, pairsD, List.map_append]
        exact hbs
      · rintro σ' H6 ⟨ex6, f, o8, rfl, hf⟩
        have hq6 := ex6 _ _ (e5 _ _ hq4)
        refine s_app (v := f) hq6 (ev_var rfl) (ev_var rfl) (by omega) fun H7 e7 => ⟨Ex.mut (ex5.trans (ex6.trans e7)) q0, vs ++ [f], _, _, _, rfl, upd_same, by rw [List.length_append, hvl]; rfl, fun j v hj => ?_⟩
        have hq7 := e7 _ _ hq6
        by_cases hlt : j < vs.length
        · rw [List.getElem?_append_left hlt] at hj
          exact ((hvs j v hj).ex (e5.trans (ex6.trans e7))).upd hq7
        · rw [List.getElem?_append_right (by omega)] at hj
          have hk0 : j - vs.length = 0 := by
            have := (List.getElem?_eq_some_iff.mp hj).1
            simp at this
            omega
          rw [hk0] at hj
          cases hj
          have : j = side := by omega
          rw [this]
          exact (hf.ex e7).upd hq7
    · rintro σ' H4 ⟨ex4, vs, o6, o7, o8, rfl, hq4, hvl, hvs⟩
      have hdq : Dat H4 (hereD (allP X c0) (allP Y c1)) (.ref q) := by
        cases vs with
        | nil => cases hvl
        | cons f vs =>
          cases vs with
          | nil => cases hvl
          | cons g vs =>
            cases vs with
            | cons _ _ => simp at hvl
            | nil => exact Dat.lst hq4 ⟨_, _, rfl, (hvs 0 f rfl).dat, ⟨_, _, rfl, (hvs 1 g rfl).dat, rfl⟩⟩
      have w4 : W p l H H4 := w02.trans (W.of w02.h1 ex4)
      have hv44 := hv4'.ex ex4
      have dmb := all_dm zok hd2
      refine ed_ixT (K := K) (j := 0) (ed_var (by rfl) hv44) ed_ci rfl rfl H4 (Ex.refl _) _ fun u1 H5 e5 hu1 => ?_
      refine ed_ixT (K := K) (j := 1) (ed_var (by rfl) (hv44.ex e5)) ed_ci rfl rfl H5 (Ex.refl _) _ fun u2 H6 e6 hu2 => ?_
      cases (show u1 = V.int (c0 : Int) from hu1)
      cases (show u2 = V.int (c1 : Int) from hu2)
      have w6 : W p l H4 H6 := W.of w4.h1 (e5.trans e6)
      refine ⟨_, rfl, _, rfl, _, rfl, _, rfl, _, rfl, p, l, Z, M, allP X c0, allP Y c1, depth, v2, .ref q, v4, rfl, w6.h1, h2.te (w4.trans w6).te (mat_T M), hdq.ex (e5.trans e6), hv4.ex (ex4.trans (e5.trans e6)), zok, sh, all_here zok, by show dm (allP Z.X Z.c0) (allP Z.Y Z.c1) depth < 9; omega, by omega, fun t v H7 w7 ht hv => ⟨sz_of (by simp), fun r hr => ?_⟩⟩
      refine k ⟨Z, t, M⟩ _ _ (w4.trans (w6.trans (w7.trans (W.of w7.h1 (Ex.new hr))))) ⟨⟨zok, ht.wf, Nat.le_trans ht.dep dmb, sh⟩, fun x y r s hx hy hr hs => ht.right (x, r) (mem_allP.mpr ⟨hx, hr⟩) (y, s) (mem_allP.mpr ⟨hy, hs⟩)⟩ rfl (Dat.tup upd_same ⟨_, _, rfl, rfl, ⟨_, _, rfl, rfl, ⟨_, _, rfl, rfl, ⟨_, _, rfl, hv.ex (Ex.new hr), rfl⟩⟩⟩⟩)
abbrev K_law (P : Program) (w : World) (K : PySem.W.Frag) (mg : Str → Option Value) (base : Heap) : Prop := Fk P w K mg base "law" ["_law_script"] 15 (spLaw K)
theorem sc_law : FnScope ["_law_script", "_law_hand", "_law_sizes", "_law_tables", "_law_table_here", "_law_talks", "_law_depth", "_law_talk"] ["_law_script"] (defScope s_law) := ⟨rfl, rfl, rfl, by decide +kernel, rfl, by decide +kernel, by decide +kernel⟩
theorem ok_law {f : Addr} {fd : FuncData} (F : FnP K "law" "law" s_law f fd) (T : Txt mg) (c_law_draws : K_law_draws P w K mg base) (c_law_take : K_law_take P w K mg base) (c_law_table : K_law_table P w K mg base) (c_law_easy_table : K_law_easy_table P w K mg base) (c_law_right_talk : K_law_right_talk P w K mg base) (c_law_is_right : K_law_is_right P w K mg base) : FnOk P w K mg base CX0 15 f fd ["_law_script"] (spLaw K) := by
  refine FunD.ok F sc_law (fun vs H Q E h => ?_) (fun cdv A outer s H vs Q E hr h => ?_)
  · obtain ⟨a, ns, rfl, _⟩ := h
    rfl
  · obtain ⟨sc, ns, rfl, hsc, hns, k⟩ := h
    refine ⟨_, PSs.nox (pss_cons (psv 1 sc_law.nd (pe_lst (pa_cons (pe_callF c_law_draws hr (by first | decide | omega) (pa_cons (pv 0) (pa_cons pe_int pa_nil))) (pa_cons pe_int pa_nil))))
    (pss_cons (psv 2 sc_law.nd (pe_tup (pa_cons (pe_op op_add pe_int (pe_callF c_law_take hr (by first | decide | omega) (pa_cons (pv 1) (pa_cons pe_int pa_nil)))) (pa_cons (pe_op op_add pe_int (pe_callF c_law_take hr (by first | decide | omega) (pa_cons (pv 1) (pa_cons pe_int pa_nil)))) pa_nil))))
    (pss_cons (psv 3 sc_law.nd (pe_lst (pa_cons (pe_callF c_law_table hr (by first | decide | omega) (pa_cons (pv 1) (pa_cons (pe_ix (k_ixT (K := K)) (pv 2) pe_int (fun _ _ => rfl)) (pa_cons (pe_ix (k_ixT (K := K)) (pv 2) pe_int (fun _ _ => rfl)) (pa_cons (pe_op op_add pe_int (pe_callF c_law_take hr (by first | decide | omega) (pa_cons (pv 1) (pa_cons pe_int pa_nil)))) pa_nil))))) (pa_cons (pe_callF c_law_easy_table hr (by first | decide | omega) (pa_cons (pv 1) (pa_cons (pv 2) pa_nil))) pa_nil))))
    (pss_cons (ps_for PassesOwn.never (by rfl) (k_pL (K := K) (pv 3)) (pgv 4 sc_law.nd)
    (pss_cons (ps_setLc (i := 5) (own := [("_law_depth", 6)]) (by rfl) sc_law.nd rfl rfl (sw_true rfl rfl rfl (by decide +kernel)) (k_pL (K := K) (pe_lst (pa_cons pe_int (pa_cons pe_int (pa_cons pe_int (pa_cons pe_int pa_nil)))))) (blkOk_by (by kernel_rfl)) (fun _ _ _ _ _ => (pgv 6 sc_law.nd)) (fun _ _ _ _ _ => pts_nil) (fun _ _ _ _ _ => (pe_callF c_law_right_talk hr (by first | decide | omega) (pa_cons (pv 1) (pa_cons (pv 4) (pa_cons (pv 6) pa_nil))))))
    (pss_one (ps_for PassesOwn.never (by rfl) (k_pL (K := K) (pe_op op_cat (pv 5) (pe_slice (k_slL (K := K)) (pv 5) po_none (po_some pe_int)))) (pgv 7 sc_law.nd)
    (pss_one (ps_if (pt_not (pt_val (pe_callF c_law_is_right hr (by first | decide | omega) (pa_cons (pv 7) (pa_cons (pv 4) pa_nil)))))
    (pss_one (ps_ret pe_bl))
    pss_nil))))))
    (pss_one (ps_ret pe_bl)))))), ?_⟩
    refine ⟨_, rfl, sc, ns, rfl, hsc, by omega, fun l H1 ms l0 e1 hl => ⟨sz_of (by simp), fun p hp => ?_⟩⟩
    have nlp : p ≠ l := fun z => by rw [z, hl] at hp; cases hp
    have hh : HandAt p l (upd H1 p (.lst [V.ref l, .int 0])) := ⟨nlp, ⟨0, by decide, upd_same⟩, ms, by rw [upd_ne (fun z => nlp z.symm)]; exact hl⟩
    generalize upd H1 p (.lst [V.ref l, .int 0]) = H2 at *
    refine q_asgH hh (eh_two (p := p) (l := l) (m := 4) (by rfl) (fun H2 w2 => ed_ci) (by decide)) fun v3 H3 w3 ⟨d, ⟨X, Y, ed, x1, x4, y1, y4⟩, hv3⟩ => ?_
    subst ed
    have hv3' : Dat H3 (.tup [.int X, .int Y]) v3 := hv3
    -- tables
    refine ⟨_, rfl, ev_i (ed_ixT (K := K) (j := 0) (ed_var (by rfl) hv3') ed_ci rfl rfl) H3 (Ex.refl _) _ fun H4 e4 => ev_i (ed_ixT (K := K) (j := 1) (ed_var (by rfl) (hv3'.ex e4)) ed_ci rfl rfl) H4 (Ex.refl _) _ fun H5 e5 => eh_take (p := p) (l := l) (i := 1) (m := 4) (tb := tC (.int 4)) (by rfl) (fun H1 _ => ed_ci) (by decide) H5 (W.refl (w3.h1.ex (e4.trans e5))) _ fun u H6 w6 ⟨d, ⟨x, ed, x0, xm⟩, hu⟩ => ?_⟩
    subst ed
    cases (show u = V.int x from hu)
    obtain ⟨x', rfl⟩ : ∃ x' : Nat, x = (x' : Int) := ⟨x.toNat, by omega⟩
    have e1' : (1 : Int) + (x' : Int) = ((1 + x' : Nat) : Int) := by omega
    have w36 : W p l H3 H6 := (W.of w3.h1 (e4.trans e5)).trans w6
    refine ⟨1, (x' : Int), rfl, rfl, p, l, X, Y, 1 + x', by show [V.ref p, V.int X, V.int Y, V.int (1 + (x' : Int))] = _; rw [e1'], w36.h1, by omega, by omega, by omega, fun M1 v1 H7 w7 hM1 hv1 => ?_⟩
    have w37 := w36.trans w7
    refine ⟨_, rfl, _, rfl, p, l, X, Y, v3, rfl, w37.h1, hv3.te w37.te rfl, x4, y4, fun M2 v2 H8 w8 hM2 hv2 => ⟨sz_of (by simp), fun q hq => ?_⟩⟩
    have w38 := w37.trans w8
    have fq := w38.h1.fresh hq
    have w9 : W p l H8 (upd H8 q (.lst [v1, v2])) := W.of w38.h1 (Ex.new hq)
    have hq9 : (upd H8 q (.lst [v1, v2])) q = some (.lst [v1, v2]) := upd_same
    have hv19 : Dat (upd H8 q (.lst [v1, v2])) (mat M1) v1 := hv1.te (w8.te.trans w9.te) (mat_T M1)
    have hv29 : Dat (upd H8 q (.lst [v1, v2])) (mat M2) v2 := hv2.te w9.te (mat_T M2)
    generalize upd H8 q (.lst [v1, v2]) = H9 at *
    refine q_forH (p := p) (l := l) (us := [v1, v2]) (by rfl) hq9 fq.1 w9.h1 (fun _ σ' => ∃ o4 o5 o7 : Option V, σ' = [some (.ref sc), some (.ref p), some v3, some (.ref q), o4, o5, none, o7]) ⟨none, none, none, rfl⟩ ?_ ?_
    · rintro j v σ' H10 hj w10 ⟨o4, o5, o7, rfl⟩
      obtain ⟨M, hM, hvM⟩ : ∃ M, Sh X Y M ∧ Dat H9 (mat M) v := by
        rcases (by have := (List.getElem?_eq_some_iff.mp hj).1; simp at this; omega : j = 0 ∨ j = 1) with e | e
        · subst e
          simp at hj
          subst hj
          exact ⟨M1, hM1.1, hv19⟩
        · subst e
          simp at hj
          subst hj
          exact ⟨M2, hM2, hv29⟩
      have hv10 := hvM.te w10.te (mat_T M)
      refine ⟨sz_of (by simp), fun r hr => ⟨r, rfl, ⟨_, SqL.of upd_same⟩, fun Dl hD => lc_list (xs := [.int 0, .int 0, .int 1, .int 2]) (fun i H' => W p l (upd H10 r (.lst [V.int 0, .int 0, .int 1, .int 2])) H' ∧ ∃ (L : List TalkA) (ws : List V), H' Dl = some (.lst ws) ∧ DatL H' (L.map fun a => talkD a.Z a.t) ws ∧ L.length = i ∧ ∀ a ∈ L, a.Right ∧ a.M = M) ?_ ?_ ?_ ?_⟩⟩
      all_goals have w11 : W p l H10 (upd H10 r (.lst [V.int 0, .int 0, .int 1, .int 2])) := W.of w10.h1 (Ex.new hr)
      all_goals have hr11 : (upd H10 r (.lst [V.int 0, .int 0, .int 1, .int 2])) r = some (.lst [V.int 0, .int 0, .int 1, .int 2]) := upd_same
      all_goals have frp := w10.h1.fresh hr
      all_goals generalize upd H10 r (.lst [V.int 0, .int 0, .int 1, .int 2]) = H11 at *
      · exact ⟨W.of w11.h1 (Ex.new hD), [], [], upd_same, rfl, rfl, fun a ha => by cases ha⟩
      · exact fun i H' _ pp => SqL.of (pp.1.ex r _ frp.1 hr11)
      · rintro i x H' hi ⟨w12, L, ws, hDl, hws, hL, hall⟩
        have fD := w11.h1.fresh hD
        obtain ⟨depth, rfl, hdp⟩ : ∃ depth : Nat, x = V.int depth ∧ depth ≤ 2 := by
          rcases (by have := (List.getElem?_eq_some_iff.mp hi).1; simp at this; omega : i = 0 ∨ i = 1 ∨ i = 2 ∨ i = 3) with e | e | e | e
          · subst e; simp at hi; exact ⟨0, hi.symm, by decide⟩
          · subst e; simp at hi; exact ⟨0, hi.symm, by decide⟩
          · subst e; simp at hi; exact ⟨1, hi.symm, by decide⟩
          · subst e; simp at hi; exact ⟨2, hi.symm, by decide⟩
        have hi4 : i < 4 := by have := (List.getElem?_eq_some_iff.mp hi).1; simpa using this
        refine ⟨rfl, ?_⟩
        simp only [tYes, ↓reduceIte]
        refine ⟨_, rfl, _, rfl, _, rfl, p, l, X, Y, M, depth, v, rfl, w12.h1, hv10.te (w11.trans w12).te (mat_T M), hM, x1, x4, y1, y4, hdp, fun a u H13 w13 ha eM hu => ?_⟩
        have hD13 := w13.ex Dl _ fD.1 hDl
        have lws := hws.length
        rw [List.length_map] at lws
        refine ⟨ws, hD13, sz_lt (by omega), (w12.trans w13).mut hD, L ++ [a], ws ++ [u], upd_same, ?_, by rw [List.length_append, hL]; rfl, fun b hb => ?_⟩
        · have te : TE H13 (upd H13 Dl (.lst (ws ++ [u]))) := TE.upd hD13
          rw [List.map_append]
          exact (hws.te (w13.te.trans te) (TL_map _ (fun a : TalkA => talkD_T a.Z a.t) _)).snoc (hu.te te (talkD_T a.Z a.t))
        · rcases List.mem_append.mp hb with hb | hb
          · exact hall b hb
          · rw [List.mem_singleton.mp hb]
            exact ⟨ha, eM⟩
      · rintro H' ⟨w12, L, ws, hDl, hws, hL, hall⟩
        have hL4 : L.length = 4 := hL
        have w102 := w10.trans (w11.trans w12)
        have hvv : Dat H' (mat M) v := hv10.te (w11.trans w12).te (mat_T M)
        have hdl : Dat H' (.lst (L.map fun a => talkD a.Z a.t)) (.ref Dl) := Dat.lst hDl hws
        refine JH.s_forL (ds := (L ++ L.take 1).map fun a => talkD a.Z a.t) (EvN.toD (EvN.is (en_cat (ed_var (by rfl) hdl) (ed_sl1 (ed_var (by rfl) hdl) (by rw [List.length_map]; exact hL4)) (by rw [List.length_take, List.length_map]; omega)) (by rw [List.map_append, List.map_take]))) (TL_map _ (fun a : TalkA => talkD_T a.Z a.t) _) (fun H1 a i σ' H2 => Ex H1 H2 ∧ Ex H' H2 ∧ (∃ xs, H1 a = some (.lst xs)) ∧ ∃ o7 : Option V, σ' = [some (.ref sc), some (.ref p), some v3, some (.ref q), some v, some (.ref Dl), none, o7]) (fun H1 a vs e h1 _ => ⟨Ex.refl _, e, ⟨_, h1⟩, o7, rfl⟩) (fun H1 a i σ' H2 e ⟨e2, _, ⟨xs, hx⟩, _⟩ => ⟨TE.ex e2, (e2 _ _ hx).trans hx.symm⟩) ?_ ?_
        · rintro H1 a i d u σ' H2 e hi ⟨e2, e3, hx, o7, rfl⟩ hdu
          rw [List.getElem?_map] at hi
          obtain ⟨b, hb, rfl⟩ := Option.map_eq_some_iff.mp hi
          have hbm : b ∈ L := by
            rcases List.mem_append.mp (List.mem_of_getElem? hb) with h | h
            · exact h
            · exact List.mem_of_mem_take h
          obtain ⟨hbr, hbM⟩ := hall b hbm
          have hvb : Dat H2 (mat b.M) v := by rw [hbM]; exact hvv.ex e3
          exact s_when (b := !true) (et_not (et_v (ed_callP b (eda_cons (ed_var rfl hdu) (eda_cons (ed_var rfl hvb) eda_nil)) hbr))) (fun z => by cases z) (fun _ H3 e4 => ⟨e2.trans e4, e3.trans e4, hx, _, rfl⟩)
        · rintro H1 a σ' H2 e ⟨e2, e3, hx, o7, rfl⟩
          exact ⟨w102.trans (W.of w102.h1 e3), _, _, _, rfl⟩
    · rintro σ' H10 w10 ⟨o4, o5, o7, rfl⟩
      exact s_ret ev_c fun H11 e11 => k H11
end
end JH
set_option Elab.async false
set_option maxRecDepth 100000
set_option maxHeartbeats 4000000
/-! a held talk: its bits, its counts -/
namespace JH
open PySem PySem.Spec PyProof.Rows L2 Evl
def hdF (v1 v2 v3 v4 v5 : V) : List (Str × V) := putF "wrong" v5 (putF "bits" v4 (putF "coins" v3 (putF "inputs" v2 (putF "table" v1 []))))
section
variable (v1 v2 v3 v4 v5 : V)
theorem hdF_table : (hdF v1 v2 v3 v4 v5).lookup ("table" : Str) = some v1 := by
  unfold hdF
  rw [lookup_putF, if_neg (by decide +kernel), lookup_putF, if_neg (by decide +kernel), lookup_putF, if_neg (by decide +kernel), lookup_putF, if_neg (by decide +kernel), lookup_putF, if_pos rfl]
theorem hdF_inputs : (hdF v1 v2 v3 v4 v5).lookup ("inputs" : Str) = some v2 := by
  unfold hdF
  rw [lookup_putF, if_neg (by decide +kernel), lookup_putF, if_neg (by decide +kernel), lookup_putF, if_neg (by decide +kernel), lookup_putF, if_pos rfl]
theorem hdF_coins : (hdF v1 v2 v3 v4 v5).lookup ("coins" : Str) = some v3 := by
  unfold hdF
  rw [lookup_putF, if_neg (by decide +kernel), lookup_putF, if_neg (by decide +kernel), lookup_putF, if_pos rfl]
theorem hdF_bits : (hdF v1 v2 v3 v4 v5).lookup ("bits" : Str) = some v4 := by
  unfold hdF
  rw [lookup_putF, if_neg (by decide +kernel), lookup_putF, if_pos rfl]
theorem hdF_wrong : (hdF v1 v2 v3 v4 v5).lookup ("wrong" : Str) = some v5 := by
  unfold hdF
  rw [lookup_putF, if_pos rfl]
theorem hdF_no {m : Str} (h1 : ¬ m = "wrong") (h2 : ¬ m = "bits") (h3 : ¬ m = "coins") (h4 : ¬ m = "inputs") (h5 : ¬ m = "table") : (hdF v1 v2 v3 v4 v5).lookup m = none := by
  unfold hdF
  rw [lookup_putF, if_neg h1, lookup_putF, if_neg h2, lookup_putF, if_neg h3, lookup_putF, if_neg h4, lookup_putF, if_neg h5]
  rfl
end
structure TxtH (K : PySem.W.Frag) (C : Addr) : Prop where
  cl : Cls K C
  nT : NoAttr K C "table"
  nI : NoAttr K C "inputs"
  nC : NoAttr K C "coins"
  nB : NoAttr K C "bits"
  nW : NoAttr K C "wrong"
def gOf (t : Tr) (c : C4) : List Int := (t.run c.1 c.2.1 c.2.2.1 c.2.2.2).1
def cellsR (n x y r : Nat) : List C4 := (List.range n).map fun s => (x, y, r, s)
def cellsXY (Z : Sz) (x y : Nat) : List C4 := (List.range Z.c0).flatMap (cellsR Z.c1 x y)
def cellsX (Z : Sz) (x : Nat) : List C4 := (List.range Z.Y).flatMap (cellsXY Z x)
def cellsA (Z : Sz) : List C4 := (List.range Z.X).flatMap (cellsX Z)
theorem mem_cells {Z : Sz} {x y r s : Nat} (hx : x < Z.X) (hy : y < Z.Y) (hr : r < Z.c0) (hs : s < Z.c1) : (x, y, r, s) ∈ cellsA Z :=
  List.mem_flatMap.mpr ⟨x, List.mem_range.mpr hx, List.mem_flatMap.mpr ⟨y, List.mem_range.mpr hy, List.mem_flatMap.mpr ⟨r, List.mem_range.mpr hr, List.mem_map.mpr ⟨s, List.mem_range.mpr hs, rfl⟩⟩⟩⟩
theorem cellsR_len {Z : Sz} (z : Z.Ok) (x y r : Nat) : (cellsR Z.c1 x y r).length ≤ 3 := by simp [cellsR]; exact z.s3
theorem cellsXY_len {Z : Sz} (z : Z.Ok) (x y : Nat) : (cellsXY Z x y).length ≤ 9 := mul_le' (d := 3) (flat_len (fun r => cellsR_len z x y r) _) z.r3
theorem cellsX_len {Z : Sz} (z : Z.Ok) (x : Nat) : (cellsX Z x).length ≤ 36 := mul_le' (d := 4) (flat_len (fun y => cellsXY_len z x y) _) z.y4
theorem NestAt.ex {P : Program} {w : World} {H H' : Hp} {d : Addr} {g : C4 → List Int} {L : List C4} (e : Ex H H') (n : NestAt P w H d g L) : NestAt P w H' d g L := by
  obtain ⟨xs, h1, _⟩ := id n
  exact n.keep ((e _ _ h1).trans h1.symm) (TE.ex e)
theorem NestAt.place {P : Program} {w : World} {H : Hp} {d p C dx : Addr} {fs : List (Str × V)} {g : C4 → List Int} {L : List C4} (n : NestAt P w H d g L) (h : H p = some (.ins C dx fs)) : p ≠ d := fun z => by
  obtain ⟨xs, h1, _⟩ := n
  rw [← z, h] at h1
  cases h1
def HeldAt (P : Program) (w : World) (H : Hp) (p C : Addr) (a : TalkA) : Prop := ∃ dx f1 f2 f3 d L, H p = some (.ins C dx (hdF f1 f2 f3 (.ref d) .non)) ∧ Dat H (mat a.M) f1 ∧ Dat H (pairD a.Z.X a.Z.Y) f2 ∧ Dat H (pairD a.Z.c0 a.Z.c1) f3 ∧ NestAt P w H d (gOf a.t) L ∧ ∀ c ∈ cellsA a.Z, c ∈ L
theorem HeldAt.ex {P : Program} {w : World} {H H' : Hp} {p C : Addr} {a : TalkA} (e : Ex H H') (h : HeldAt P w H p C a) : HeldAt P w H' p C a := by
  obtain ⟨dx, f1, f2, f3, d, L, h1, h2, h3, h4, h5, h6⟩ := h
  exact ⟨dx, f1, f2, f3, d, L, e _ _ h1, h2.ex e, h3.ex e, h4.ex e, h5.ex e, h6⟩
def sp_hold_all (P : Program) (w : World) (C : Addr) : Sp := fun vs H Q _ => ∃ (p dx d : Addr) (v1 v2 f1 f2 f3 : V) (a : TalkA) (x y : Nat) (L : List C4), vs = [.ref p, v1, v2] ∧ H p = some (.ins C dx (hdF f1 f2 f3 (.ref d) .non)) ∧ Dat H (mat a.M) f1 ∧ Dat H (pairD a.Z.c0 a.Z.c1) f3 ∧ NestAt P w H d (gOf a.t) L ∧
  Dat H (talkD a.Z a.t) v1 ∧ Dat H (pairD x y) v2 ∧ a.Right ∧ x < a.Z.X ∧ y < a.Z.Y ∧ L.length ≤ 500 ∧ ∀ H', ExB d H H' → TE H H' → NestAt P w H' d (gOf a.t) (L ++ cellsXY a.Z x y) → Q .non H'
def sp_Held_init (P : Program) (w : World) (C : Addr) : Sp := fun vs H Q _ => ∃ (p dx : Addr) (v1 v2 : V) (a : TalkA), vs = [.ref p, v1, v2] ∧ H p = some (.ins C dx []) ∧ Dat H (talkD a.Z a.t) v1 ∧ Dat H (mat a.M) v2 ∧ a.Right ∧ ∀ H', ExB p H H' → HeldAt P w H' p C a → Q .non H'
section
variable {K : PySem.W.Frag} {σ : L2.St} {H H' : Hp} {ta tb te td ty : L2.TE} {DD : Ends} {tu tz : TS} {g : TG}
theorem q_asg2 {i j : Nat} {d1 d2 : D} (h : EvD te σ H (.tup [d1, d2])) (k : ∀ u1 u2 H1, Ex H H1 → Dat H1 d1 u1 → Dat H1 d2 u2 → tz DD ((σ.set i (some u1)).set j (some u2)) H1) : tSeq (tAsg te (gTup K 2 (gCons (gName i) (gCons (gName j) gNil)))) tz DD σ H :=
  h H (Ex.refl H) _ fun v H1 e ⟨a, us, ev, h1, h2⟩ => by
    obtain ⟨u, v, rfl, h3, h4⟩ := datL2 h2
    exact ⟨a, _, ev, SqT.of h1, rfl, _, _, rfl, _, _, rfl, rfl, k u v H1 e h3 h4⟩
theorem ed_nget {P : Program} {w : World} {d : Addr} {gg : C4 → List Int} {L : List C4} {c : C4} (hd : Ev td σ H (.ref d)) (n : NestAt P w H d gg L) (hc : c ∈ L) (hy : EvD ty σ H (keyD c)) : EvD (tNGet P w td ty) σ H (bitsD (gg c)) := fun H1 e Q q =>
  hd H1 e _ fun H2 e2 => hy H2 (e.trans e2) _ fun y H3 e3 hy3 => ⟨d, gg, L, c, rfl, n.ex ((e.trans e2).trans e3), hy3, hc, fun v hv => q v H3 (e2.trans e3) hv⟩
end
section
variable {P : Program} {w : World} {K : PySem.W.Frag} {mg : Str → Option Value} {base : Heap} {C : Addr}
abbrev K_hold_all (P : Program) (w : World) (K : PySem.W.Frag) (mg : Str → Option Value) (base : Heap) (C : Addr) : Prop := Fm P w K mg base C "hold_all" ["self", "talk", "inputs"] 2 (sp_hold_all P w C)
theorem sc_Held_hold_all : FnScope ["self", "talk", "inputs", "answer", "one", "other", "bits", "answers", "side"] ["self", "talk", "inputs"] (defScope s_Held_hold_all) := ⟨rfl, rfl, rfl, by decide +kernel, rfl, by decide +kernel, by decide +kernel⟩
theorem ok_Held_hold_all {f : Addr} {fd : FuncData} (F : FnP K "hold_all" "Held.hold_all" s_Held_hold_all f fd) (T : Txt mg) (S : TxtH K C) (c_hold_talk : K_hold_talk P w K mg base) : FnOk P w K mg base CX0 2 f fd ["self", "talk", "inputs"] (sp_hold_all P w C) := by
  refine FunD.ok F sc_Held_hold_all (fun vs H Q E h => ?_) (fun cdv A outer s H vs Q E hr h => ?_)
  · obtain ⟨p, dx, d, v1, v2, f1, f2, f3, a, x, y, L, rfl, _⟩ := h
    rfl
  · obtain ⟨p, dx, d, v1, v2, f1, f2, f3, ⟨Z, t, M⟩, x, y, L, rfl, hp, hf1, hf3, hn, h1, h2, ⟨⟨zok, wf, dep, sh⟩, right⟩, hx, hy, hL, k⟩ := h
    simp only at hf1 hf3 hn h1 zok wf dep sh right hx hy
    have npd := hn.place hp
    have h2' : Dat H (.tup [.int x, .int y]) v2 := h2
    have hf3' : Dat H (.tup [.int Z.c0, .int Z.c1]) f3 := hf3
    have fld : ∀ (σ' : L2.St) (H' : Hp) (f : Str) (v : V), ExB d H H' → σ'[0]? = some (some (.ref p)) → NoAttr K C f → (hdF f1 f2 f3 (.ref d) .non).lookup f = some v → Ev (tFld K (tVar 0) f) σ' H' v := fun σ' H' f v e g0 na hl => ev_fld (ev_var g0) (e p _ npd hp) S.cl na hl
    refine ⟨_, PSs.nox (pss_cons (psv 3 sc_Held_hold_all.nd (pe_ix (k_ixT (K := K)) (pe_ix (k_ixT (K := K)) (k_fld (K := K) (pv 0)) (pe_ix (k_ixT (K := K)) (pv 2) pe_int (fun _ _ => rfl)) (fun _ _ => rfl)) (pe_ix (k_ixT (K := K)) (pv 2) pe_int (fun _ _ => rfl)) (fun _ _ => rfl)))
    (pss_one (ps_for PassesOwn.never (by rfl) (pi_range1 (by rfl) T.range (pa_cons (pe_ix (k_ixT (K := K)) (k_fld (K := K) (pv 0)) pe_int (fun _ _ => rfl)) pa_nil)) (pgv 4 sc_Held_hold_all.nd)
    (pss_one (ps_for PassesOwn.never (by rfl) (pi_range1 (by rfl) T.range (pa_cons (pe_ix (k_ixT (K := K)) (k_fld (K := K) (pv 0)) pe_int (fun _ _ => rfl)) pa_nil)) (pgv 5 sc_Held_hold_all.nd)
    (pss_cons (ps_asg (pe_callF c_hold_talk hr (by first | decide | omega) (pa_cons (pv 1) (pa_cons (pv 2) (pa_cons (pe_tup (pa_cons (pv 4) (pa_cons (pv 5) pa_nil))) pa_nil)))) (k_gtup (K := K) (by rfl) (pgs_cons (pgv 6 sc_Held_hold_all.nd) (pgs_cons (pgv 7 sc_Held_hold_all.nd) pgs_nil))))
    (pss_cons (ps_asg (pv 6) (pg_sub (k_fld (K := K) (pv 0)) (pe_tup (pa_cons (pv 2) (pa_cons (pe_tup (pa_cons (pv 4) (pa_cons (pv 5) pa_nil))) pa_nil))) (set_nest hr.units)))
    (pss_one (ps_for PassesOwn.never (by rfl) (k_pT (K := K) (pe_tup (pa_cons pe_int (pa_cons pe_int pa_nil)))) (pgv 8 sc_Held_hold_all.nd)
    (pss_one (ps_if (PW.pt (pw_and (pt_cmpR op_isN (k_fld (K := K) (pv 0)) pe_non (nomark _)) (pw_and1 (pt_cmpR op_ne (pe_ix (k_ixT (K := K)) (pv 7) (pv 8) (fun _ _ => rfl)) (pv 3) (nomark _)))))
    (pss_one (ps_fld (pv 0) (pe_tup (pa_cons pe_str (pa_cons (pv 2) (pa_cons (pe_tup (pa_cons (pv 4) (pa_cons (pv 5) pa_nil))) (pa_cons (pv 8) pa_nil))))) (by rfl)))
    pss_nil))))))))))), ?_⟩
    refine q_asgR (ed_cell (K := K) (i := x) (j := y) (ed_ev (fld _ H _ _ (ExB.refl _ _) rfl S.nT (hdF_table _ _ _ _ _)) hf1) (ed_ixT (j := 0) (ed_var rfl h2') ed_ci rfl rfl) (ed_ixT (j := 1) (ed_var rfl h2') ed_ci rfl rfl) sh hx hy rfl rfl) fun v3 H1 e1 hv3 => ?_
    cases (show v3 = V.int (get2 M x y) from hv3)
    have zr := zok.r3
    have zs := zok.s3
    refine s_forR (n := Z.c0) (ed_ixT (j := 0) (ed_ev (fld _ H1 _ _ (ExB.of e1) rfl S.nC (hdF_coins _ _ _ _ _)) (hf3'.ex e1)) ed_ci rfl rfl) (by omega) (fun i σ' H' => ExB d H H' ∧ TE H H' ∧ NestAt P w H' d (gOf t) (L ++ (List.range i).flatMap (cellsR Z.c1 x y)) ∧ ∃ o4 o5 o6 o7 o8 : Option V, σ' = [some (.ref p), some v1, some v2, some (.int (get2 M x y)), o4, o5, o6, o7, o8])
      (fun H2 e2 => ⟨ExB.of (e1.trans e2), TE.ex (e1.trans e2), by
        rw [List.range_zero, List.flatMap_nil, List.append_nil]; exact hn.ex (e1.trans e2), none, none, none, none, none, rfl⟩) ?_ (fun σ' H' ⟨eb, te, n', o4, o5, o6, o7, o8, e⟩ => k H' eb te n')
    rintro r σ' H2 hr2 ⟨eb2, te2, n2, o4, o5, o6, o7, o8, rfl⟩
    have len2 := flat_len (fun r => cellsR_len zok x y r) r
    have len2' : (L ++ (List.range r).flatMap (cellsR Z.c1 x y)).length ≤ 509 := by rw [List.length_append]; omega
    generalize hL2 : L ++ (List.range r).flatMap (cellsR Z.c1 x y) = L2 at *
    refine s_forR (n := Z.c1) (ed_ixT (j := 1) (ed_ev (fld _ H2 _ _ eb2 rfl S.nC (hdF_coins _ _ _ _ _)) (hf3'.te te2 rfl)) ed_ci rfl rfl) (by omega) (fun i σ' H' => ExB d H H' ∧ TE H H' ∧ NestAt P w H' d (gOf t) (L2 ++ (List.range i).map fun s => (x, y, r, s)) ∧ ∃ o5 o6 o7 o8 : Option V, σ' = [some (.ref p), some v1, some v2, some (.int (get2 M x y)), some (.int r), o5, o6, o7, o8])
      (fun H3 e3 => ⟨eb2.trans (ExB.of e3), te2.trans (TE.ex e3), by
        rw [List.range_zero, List.map_nil, List.append_nil]; exact n2.ex e3, _, _, _, _, rfl⟩) ?_ (fun σ' H' ⟨eb, te, n', o5, o6, o7, o8, e⟩ => ⟨eb, te, by
        rw [flat_snoc, ← List.append_assoc, hL2]; exact n', _, _, _, _, _, e⟩)
    rintro s' σ' H3 hs2 ⟨eb3, te3, n3, o5, o6, o7, o8, rfl⟩
    have rt := right x y r s' hx hy hr2 hs2
    have h13 := h1.te te3 (talkD_T Z t)
    have h23 := h2.te te3 rfl
    refine q_asg2 (d1 := bitsD (t.run x y r s').1) (d2 := .tup [.int (t.run x y r s').2.1, .int (t.run x y r s').2.2]) (ed_callP (HoldA.mk Z t x y r s') (eda_cons (ed_var rfl h13) (eda_cons (ed_var rfl h23) (eda_cons (ed_tup (ds := [.int r, .int s']) (eda_cons (ed_var (d := .int r) rfl rfl) (eda_cons (ed_var (d := .int s') rfl rfl) eda_nil)) (by simp)) eda_nil))) ⟨zok, wf, by show t.dep ≤ 100; omega, hx, hy, hr2, hs2⟩) fun u6 u7 H4 e4 hu6 hu7 => ?_
    rw [rt] at hu7
    have eb4 := eb3.trans (ExB.of e4)
    have len3 : (L2 ++ (List.range s').map fun s => (x, y, r, s)).length ≤ 600 := by rw [List.length_append, List.length_map, List.length_range]; omega
    -- self.bits[inputs, (one, other)] = bits
    refine ⟨_, rfl, ?_⟩
    refine fld _ H4 "bits" (.ref d) eb4 (by rfl) S.nB (hdF_bits _ _ _ _ _) H4 (Ex.refl _) _ fun H5 e5 => ?_
    refine ed_tup (ds := [pairD x y, pairD r s']) (eda_cons (ed_var (by rfl) ((h23.ex e4).ex e5)) (eda_cons (ed_tup (ds := [.int r, .int s']) (eda_cons (ed_var (d := .int r) (by rfl) rfl) (eda_cons (ed_var (d := .int s') (by rfl) rfl) eda_nil)) (by simp)) eda_nil)) (by simp) H5 (Ex.refl _) _ fun uk H6 e6 huk => ?_
    refine ⟨d, gOf t, L2 ++ (List.range s').map fun s => (x, y, r, s), (x, y, r, s'), rfl, n3.ex (e4.trans (e5.trans e6)), huk, hu6.ex (e5.trans e6), by omega, fun H7 eb7 te7 n7 => ?_⟩
    have eb07 : ExB d H H7 := (eb4.trans (ExB.of (e5.trans e6))).trans eb7
    have te07 : TE H H7 := ((te3.trans (TE.ex e4)).trans (TE.ex (e5.trans e6))).trans te7
    have hu77 : Dat H7 (.tup [.int (get2 M x y), .int (get2 M x y)]) u7 := Dat.te te7 rfl (hu7.ex (e5.trans e6))
    have hn7 : NestAt P w H7 d (gOf t) (L2 ++ (List.range (s' + 1)).map fun s => (x, y, r, s)) := by
      rw [range_snoc, ← List.append_assoc]
      exact n7
    refine JH.s_forT (ds := [.int 0, .int 1]) (ed_tup (eda_cons ed_ci (eda_cons ed_ci eda_nil)) (by simp)) rfl (fun H8 i σ' H' => Ex H8 H' ∧ Ex H7 H' ∧ ∃ o8 : Option V, σ' = [some (.ref p), some v1, some v2, some (.int (get2 M x y)), some (.int r), some (.int s'), some u6, some u7, o8]) (fun H8 e8 => ⟨Ex.refl _, e8, _, rfl⟩) (fun H8 i σ' H' e ⟨e9, _⟩ => TE.ex e9) ?_ ?_
    · rintro H8 i d' v σ' H9 e8 hi ⟨e9, e79, o8, rfl⟩ hdv
      have eb09 := eb07.trans (ExB.of e79)
      have hv : ∃ side : Nat, v = V.int side ∧ [D.int (get2 M x y), .int (get2 M x y)][side]? = some (.int (get2 M x y)) := by
        rcases (by have := (List.getElem?_eq_some_iff.mp hi).1; simp at this; omega : i = 0 ∨ i = 1) with e | e
        · subst e; simp at hi; subst hi; exact ⟨0, hdv, rfl⟩
        · subst e; simp at hi; subst hi; exact ⟨1, hdv, rfl⟩
      obtain ⟨side, rfl, hside⟩ := hv
      refine s_when (b := false) (et_is (et_and (a := decide (V.non = V.non)) (b := !decide (get2 M x y = get2 M x y)) (et_b (ed_isN (fld _ H9 "wrong" .non eb09 rfl S.nW (hdF_wrong _ _ _ _ _)))) (fun _ => et_b (ed_neI (ed_ixT (K := K) (j := side) (ed_var rfl (hu77.ex e79)) (ed_var (d := .int side) rfl rfl) rfl hside) (ed_var (d := .int (get2 M x y)) rfl rfl)))) (by simp)) (fun z => by cases z) (fun _ H10 e10 => ⟨e9.trans e10, e79.trans e10, _, rfl⟩)
    · rintro H8 σ' H9 e8 ⟨e9, e79, o8, rfl⟩
      exact ⟨eb07.trans (ExB.of e79), te07.trans (TE.ex e79), hn7.ex e79, _, _, _, _, rfl⟩
end
end JH
set_option Elab.async false
set_option maxRecDepth 100000
set_option maxHeartbeats 4000000
/-! a talk is held; its counts, its answers, the first row that is unlike -/
namespace JH
open PySem PySem.Spec PyProof.Rows L2 Evl
def headD (L : List D) : D := match L.head? with
  | none => .non
  | some d => d
theorem flawD_head (a : TalkA) : flawD a = headD (lrnA a.Z a.t a.M) := rfl
theorem putF_len (f : Str) (v : V) : ∀ fs : List (Str × V), (putF f v fs).length ≤ fs.length + 1
  | [] => Nat.le_refl _
  | (g, x) :: r => by
    have := putF_len f v r
    unfold putF
    split
    · simp
    · simp only [List.length_cons]; omega
theorem lenF {f : Str} {v : V} {fs : List (Str × V)} {n : Nat} (h : fs.length ≤ n) : (putF f v fs).length ≤ n + 1 := by
  have := putF_len f v fs
  omega
theorem len0 : ([] : List (Str × V)).length ≤ 0 := Nat.le_refl _
theorem TE.updI {H : Hp} {l C dx : Addr} {fs : List (Str × V)} {o : HO} (h : H l = some (.ins C dx fs)) : TE H (L2.upd H l o) := fun a ys e => by
  rw [upd_ne (ne_of e h (by intro q; cases q))]
  exact e
def sp_h_counts (P : Program) (w : World) (C : Addr) : Sp := fun vs H Q _ => ∃ (p : Addr) (a : TalkA) (side own coin other : Nat), vs = [.ref p, .int side, .int own, .int coin, .int other] ∧ HeldAt P w H p C a ∧ a.Ok ∧ side < 2 ∧ own < a.Z.sz side ∧ coin < a.Z.cn side ∧ other < a.Z.sz (1 - side) ∧
  ∀ q H', H q = none → Ex H H' → CntAt H' q (rowsOf a.Z a.t side own coin other) → Q (.ref q) H'
def sp_h_answer (P : Program) (w : World) (C : Addr) : Sp := fun vs H Q _ => ∃ (p : Addr) (a : TalkA) (side own other : Nat), vs = [.ref p, .int side, .int own, .int other] ∧ HeldAt P w H p C a ∧ a.Ok ∧ side < 2 ∧ own < a.Z.sz side ∧ other < a.Z.sz (1 - side) ∧
  ∀ H', Ex H H' → Q (.int (ansO a.M side own other)) H'
def sp_learned_with (P : Program) (w : World) (C : Addr) : Sp := fun vs H Q _ => ∃ (p : Addr) (a : TalkA) (side own coin : Nat), vs = [.ref p, .int side, .int own, .int coin] ∧ HeldAt P w H p C a ∧ a.Ok ∧ side < 2 ∧ own < a.Z.sz side ∧ coin < a.Z.cn side ∧
  ∀ v H', Ex H H' → Dat H' (headD (lrnC a.Z a.t a.M side own coin)) v → Q v H'
def sp_h_learned (P : Program) (w : World) (C : Addr) : Sp := fun vs H Q _ => ∃ (p : Addr) (a : TalkA), vs = [.ref p] ∧ HeldAt P w H p C a ∧ a.Ok ∧ ∀ v H', Ex H H' → Dat H' (flawD a) v → Q v H'
/-- rows all empty, or none of them -/
def RowsOk (r1 r2 : List (List Int)) : Prop := (∀ b ∈ r1 ++ r2, BitRow b) ∧ ((∀ b ∈ r1 ++ r2, b = []) ∨ ∀ b ∈ r1 ++ r2, b ≠ [])
def sp_first_unlike : Sp := fun vs H Q _ => ∃ (pa pb : Addr) (r1 r2 : List (List Int)), vs = [.ref pa, .ref pb] ∧ CntAt H pa r1 ∧ CntAt H pb r2 ∧ r1.length ≤ 3 ∧ r2.length ≤ 3 ∧ r1 ≠ [] ∧ RowsOk r1 r2 ∧ unl r1 r2 ≠ [] ∧
  ∀ v H' b rest, Ex H H' → unl r1 r2 = b :: rest → Dat H' (.tup [bitsD b, .tup [.int (r1.count b : Nat), .int (r2.count b : Nat)]]) v → Q v H'
theorem rows_ok {Z : Sz} {t : Tr} {side own coin y z : Nat} (wf : t.WF Z) (dep : t.dep ≤ 8) (h : side < 2) (ho : own < Z.sz side) (hc : coin < Z.cn side) (hy : y < Z.sz (1 - side)) (hz : z < Z.sz (1 - side)) : RowsOk (rowsOf Z t side own coin y) (rowsOf Z t side own coin z) := by
  refine ⟨fun b hb => ?_, ?_⟩
  · rcases List.mem_append.mp hb with hb | hb
    · exact rowsOf_bits wf dep h ho hc hy b hb
    · exact rowsOf_bits wf dep h ho hc hz b hb
  · cases t with
    | fin a b =>
      refine .inl fun r hr => ?_
      rcases List.mem_append.mp hr with hr | hr
      · exact fin_rows r hr
      · exact fin_rows r hr
    | say s bits f g =>
      refine .inr fun r hr => ?_
      have : ∀ y, r ∈ rowsOf Z (.say s bits f g) side own coin y → r ≠ [] := fun y hr e => by
        obtain ⟨k, _, rfl⟩ := List.mem_map.mp hr
        obtain ⟨a, b, z⟩ := run_nil e
        cases z
      rcases List.mem_append.mp hr with hr | hr
      · exact this y hr
      · exact this z hr
section
variable {P : Program} {w : World} {K : PySem.W.Frag} {mg : Str → Option Value} {base : Heap} {C : Addr}
section
variable {σ : L2.St} {H H' : Hp} {ta tb te td ty : L2.TE}
theorem q_fldR {i : Nat} {p C dx : Addr} {fs : List (Str × V)} {fn : Str} {R : Hp → V → Prop} {DD : Ends} {tz : TS} (hp : H p = some (.ins C dx fs)) (g0 : σ[i]? = some (some (.ref p))) (cl : Cls K C) (na : NoAttr K C fn) (hl : fs.length < 1000) (h : EvR te σ H R)
    (k : ∀ v H1, Ex H H1 → R H1 v → tz DD σ (upd H1 p (.ins C dx (putF fn v fs)))) : tSeq (sFld K (tVar i) te fn) tz DD σ H :=
  h H (Ex.refl H) _ fun v H1 e r => ⟨_, g0, p, C, dx, fs, rfl, e _ _ hp, cl, na, hl, k v H1 e r⟩
theorem q_fldNest {i : Nat} {p C dx : Addr} {fs : List (Str × V)} {fn : Str} {DD : Ends} {tz : TS} (hp : H p = some (.ins C dx fs)) (g0 : σ[i]? = some (some (.ref p))) (cl : Cls K C) (na : NoAttr K C fn) (hl : fs.length < 1000)
    (k : ∀ d, H d = none → (d == sysModules) = false → tz DD σ (upd (upd H d (nestO P w d [])) p (.ins C dx (putF fn (.ref d) fs)))) : tSeq (sFld K (tVar i) (tDNewN P w) fn) tz DD σ H :=
  fun d hd hs => ⟨_, g0, p, C, dx, fs, rfl, by rw [upd_ne (fun z => by rw [← z, hp] at hd; cases hd)]; exact hp, cl, na, hl, k d hd hs⟩
/-- sorted(a | b) -/
theorem en_sortedOr {pa pb : Addr} {r1 r2 : List (List Int)} (ha : Ev ta σ H (.ref pa)) (hb : Ev tb σ H (.ref pb)) (ca : CntAt H pa r1) (cb : CntAt H pb r2) (l1 : r1.length ≤ 3) (l2 : r2.length ≤ 3) (ne : r1 ≠ []) (ok : RowsOk r1 r2) :
    EvN (tCB rSortedDT (tCons (tOp (rOrT P w) ta tb) tNil)) σ H (rowsD (srt (r1 ++ r2))) := fun H1 e1 Q q =>
  ha H1 e1 _ fun H2 e2 => hb H2 (e1.trans e2) _ fun H3 e3 => by
    obtain ⟨k1, h1, c1⟩ := ca.ex ((e1.trans e2).trans e3)
    obtain ⟨k2, h2, c2⟩ := cb.ex ((e1.trans e2).trans e3)
    have n1 := c1.len
    have n2 := c2.len
    refine ⟨pa, pb, k1, k2, rfl, rfl, h1, h2, c1.ne_nil ne, c1.hashes (fun b hb => ok.1 b (List.mem_append.mpr (.inl hb))) P w, by omega, fun m hm => ?_⟩
    obtain ⟨ks, ek, nd, hk⟩ := merge_keys c1 c2
    have hk' : ∀ b, b ∈ ks ↔ b ∈ r1 ++ r2 := fun b => by rw [hk, List.mem_append]
    have hlen : ks.length ≤ 6 := by
      have := len_of_sub nd fun x hx => (hk' x).mp hx
      rw [List.length_append] at this
      omega
    refine ⟨m, mergeT k1 k2, ks, rfl, upd_same, ek, by omega, ?_, fun zs p perm pw hz hp => ?_⟩
    · rcases ok.2 with h | h
      · refine .inl ?_
        have := len_of_sub (m := [([] : List Int)]) nd fun x hx => by rw [h x ((hk' x).mp hx)]; exact List.mem_singleton.mpr rfl
        simp only [List.length_singleton] at this
        omega
      · exact .inr fun k hk => h k ((hk' k).mp hk)
    · have es : zs.map (·.2) = srt (r1 ++ r2) := srt_of (perm.nodup_iff.mpr nd) pw fun b => by rw [perm.mem_iff, hk']
      have ex : Ex H1 (upd (upd H3 m (.dT (mergeT k1 k2))) p (.lst (zs.map fun z => V.ref z.1))) := ((e2.trans e3).trans (Ex.new hm)).trans (Ex.new hp)
      refine q p (zs.map fun z => V.ref z.1) _ (fresh_back ((e2.trans e3).trans (Ex.new hm)) hp) ex upd_same ?_
      rw [← es]
      have all : ∀ (l : List (Addr × List Int)), (∀ z ∈ l, z ∈ zs) → DatL (upd (upd H3 m (.dT (mergeT k1 k2))) p (.lst (zs.map fun z => V.ref z.1))) (rowsD (l.map (·.2))) (l.map fun z => V.ref z.1) := by
        intro l
        induction l with
        | nil => intro _; rfl
        | cons z l ih =>
          intro h
          exact ⟨_, _, rfl, Dat.tup ((Ex.new hp) _ _ (hz z (h z List.mem_cons_self))) (DatL.ints z.2), ih fun y hy => h y (List.mem_cons_of_mem _ hy)⟩
      exact all zs fun z hz => hz
end
abbrev K_first_unlike (P : Program) (w : World) (K : PySem.W.Frag) (mg : Str → Option Value) (base : Heap) : Prop := Fk P w K mg base "first_unlike" ["counts", "others"] 1 sp_first_unlike
theorem sc_first_unlike : FnScope ["counts", "others", "bits", "numbers"] ["counts", "others"] (defScope s_first_unlike) := ⟨rfl, rfl, rfl, by decide +kernel, rfl, by decide +kernel, by decide +kernel⟩
theorem ok_first_unlike {f : Addr} {fd : FuncData} (F : FnP K "first_unlike" "first_unlike" s_first_unlike f fd) (T : Txt mg)  : FnOk P w K mg base CX0 1 f fd ["counts", "others"] (sp_first_unlike) := by
  refine FunD.ok F sc_first_unlike (fun vs H Q E h => ?_) (fun cdv A outer s H vs Q E hr h => ?_)
  · obtain ⟨pa, pb, r1, r2, rfl, _⟩ := h
    rfl
  · obtain ⟨pa, pb, r1, r2, rfl, ca, cb, l1, l2, ne, ok, un, k⟩ := h
    refine ⟨_, PSs.nox (pss_cons (ps_for PassesOwn.never (by rfl) (k_pL (K := K) (pe_callB (cr_sortedDT (by rfl)) (by rfl) T.sorted bt_sorted (pa_cons (pe_op (op_orT hr.units) (pv 0) (pv 1)) pa_nil))) (pgv 2 sc_first_unlike.nd)
    (pss_cons (psv 3 sc_first_unlike.nd (pe_tup (pa_cons (pe_dget2 (hu_of hr) (pv 0) (pv 2) pe_int ⟨by rfl, by rfl, by rfl, by rfl⟩) (pa_cons (pe_dget2 (hu_of hr) (pv 1) (pv 2) pe_int ⟨by rfl, by rfl, by rfl, by rfl⟩) pa_nil))))
    (pss_one (ps_if (pt_cmpR op_ne (pe_ix (k_ixT (K := K)) (pv 3) pe_int (fun _ _ => rfl)) (pe_ix (k_ixT (K := K)) (pv 3) pe_int (fun _ _ => rfl)) (nomark _))
    (pss_one (ps_ret (pe_tup (pa_cons (pv 2) (pa_cons (pv 3) pa_nil)))))
    pss_nil))))
    (pss_one ps_never)), ?_⟩
    refine q_forN (ds := rowsD (srt (r1 ++ r2))) (en_sortedOr (ev_var rfl) (ev_var rfl) ca cb l1 l2 ne ok) (rowsD_T _) (fun H1 i σ' H' => Ex H H1 ∧ Ex H1 H' ∧ ((srt (r1 ++ r2)).take i).filter (fun b => decide (¬ r1.count b = r2.count b)) = [] ∧ ∃ o2 o3 : Option V, σ' = [some (.ref pa), some (.ref pb), o2, o3]) (fun H1 e1 => ⟨e1, Ex.refl _, rfl, none, none, rfl⟩) (fun H1 a vs i σ' H' _ _ ha ⟨_, e, _⟩ => ⟨TE.ex e, e _ _ ha⟩) ?_ ?_
    · rintro H1 i d v σ' H' e1 hi ⟨_, e2, fe, o2, o3, rfl⟩ hdv
      rw [List.getElem?_map] at hi
      obtain ⟨b, hb, rfl⟩ := Option.map_eq_some_iff.mp hi
      have e12 := e1.trans e2
      have tk : (srt (r1 ++ r2)).take (i + 1) = (srt (r1 ++ r2)).take i ++ [b] := by rw [List.take_add_one, hb]; rfl
      refine q_asgR (ed_tup (eda_cons (ed_get rfl (ca.ex e12) (ed_var rfl hdv)) (eda_cons (ed_get rfl (cb.ex e12) (ed_var rfl hdv)) eda_nil)) (by simp)) fun v3 H2 e3 hv3 => ?_
      refine s_when (b := !decide (((r1.count b : Nat) : Int) = ((r2.count b : Nat) : Int))) (et_b (ed_neI (ed_ixT (K := K) (j := 0) (ed_var rfl hv3) ed_ci rfl rfl) (ed_ixT (K := K) (j := 1) (ed_var rfl hv3) ed_ci rfl rfl))) (fun hc H3 e4 => ?_) (fun hc H3 e4 => ⟨e1, e2.trans (e3.trans e4), ?_, _, _, rfl⟩)
      · have hne : ¬ r1.count b = r2.count b := by
          simp at hc
          omega
        refine s_retD (ed_tup (ds := [bitsD b, .tup [.int (r1.count b : Nat), .int (r2.count b : Nat)]]) (eda_cons (ed_var rfl ((hdv.ex e3).ex e4)) (eda_cons (ed_var rfl (hv3.ex e4)) eda_nil)) (by simp)) fun v H4 e5 hv => k v H4 b (((srt (r1 ++ r2)).drop (i + 1)).filter (fun b => decide (¬ r1.count b = r2.count b))) (e12.trans (e3.trans (e4.trans e5))) ?_ hv
        · have hfull : srt (r1 ++ r2) = ((srt (r1 ++ r2)).take i ++ [b]) ++ (srt (r1 ++ r2)).drop (i + 1) := by rw [← tk, List.take_append_drop]
          show (srt (r1 ++ r2)).filter (fun b => decide (¬ r1.count b = r2.count b)) = _
          conv => lhs; rw [hfull]
          rw [List.filter_append, List.filter_append, fe, List.nil_append, List.filter_cons_of_pos (by simpa using hne), List.filter_nil]
          rfl
      · have he : r1.count b = r2.count b := by
          simp at hc
          omega
        rw [tk, List.filter_append, fe, List.nil_append, List.filter_cons_of_neg (by simpa using he), List.filter_nil]
    · rintro H1 σ' H' e1 ⟨_, e2, fe, _⟩
      rw [List.length_map, List.take_length] at fe
      exact un fe
abbrev K_h_counts (P : Program) (w : World) (K : PySem.W.Frag) (mg : Str → Option Value) (base : Heap) (C : Addr) : Prop := Fm P w K mg base C "counts" ["self", "side", "own", "coin", "other"] 2 (sp_h_counts P w C)
theorem sc_Held_counts : FnScope ["self", "side", "own", "coin", "other", "found", "another", "bits"] ["self", "side", "own", "coin", "other"] (defScope s_Held_counts) := ⟨rfl, rfl, rfl, by decide +kernel, rfl, by decide +kernel, by decide +kernel⟩
theorem ok_Held_counts {f : Addr} {fd : FuncData} (F : FnP K "counts" "Held.counts" s_Held_counts f fd) (T : Txt mg) (S : TxtH K C) (c_pair_of : K_pair_of P w K mg base) : FnOk P w K mg base CX0 2 f fd ["self", "side", "own", "coin", "other"] (sp_h_counts P w C) := by
  refine FunD.ok F sc_Held_counts (fun vs H Q E h => ?_) (fun cdv A outer s H vs Q E hr h => ?_)
  · obtain ⟨p, a, side, own, coin, other, rfl, _⟩ := h
    rfl
  · obtain ⟨p, ⟨Z, t, M⟩, side, own, coin, other, rfl, hAt, ⟨zok, wf, dep, sh⟩, s2, ho, hc, ht, k⟩ := h
    simp only at zok wf dep sh ho hc ht
    obtain ⟨dx, f1, f2, f3, d, L, hp, hf1, hf2, hf3, hn, hL⟩ := hAt
    simp only at hf1 hf2 hf3 hn hL
    have hf3' : Dat H (.tup [.int Z.c0, .int Z.c1]) f3 := hf3
    have hn3 := cn_le3 zok (1 - side)
    refine ⟨_, PSs.nox (pss_cons (psv 5 sc_Held_counts.nd pe_dnewT)
    (pss_cons (ps_for PassesOwn.never (by rfl) (pi_range1 (by rfl) T.range (pa_cons (pe_ix (k_ixT (K := K)) (k_fld (K := K) (pv 0)) (pe_op op_sub pe_int (pv 1)) (fun _ _ => rfl)) pa_nil)) (pgv 6 sc_Held_counts.nd)
    (pss_cons (psv 7 sc_Held_counts.nd (pe_nget hr.units (k_fld (K := K) (pv 0)) (pe_tup (pa_cons (pe_callF c_pair_of hr (by first | decide | omega) (pa_cons (pv 1) (pa_cons (pv 2) (pa_cons (pv 4) pa_nil)))) (pa_cons (pe_callF c_pair_of hr (by first | decide | omega) (pa_cons (pv 1) (pa_cons (pv 3) (pa_cons (pv 6) pa_nil)))) pa_nil))) (fun _ _ => rfl)))
    (pss_one (ps_dput (hu_of hr) (pv 5) (pv 7) (pe_op op_add (pe_dget2 (hu_of hr) (pv 5) (pv 7) pe_int ⟨by rfl, by rfl, by rfl, by rfl⟩) pe_int) (by rfl)))))
    (pss_one (ps_ret (pv 5))))), ?_⟩
    refine q_newT fun q H1 q0 e1 hq1 => ?_
    let f : Nat → List Int := fun k => (t.run (pick side own other) (pick side other own) (pick side coin k) (pick side k coin)).1
    have ixc : [D.int Z.c0, .int Z.c1][1 - side]? = some (.int (Z.cn (1 - side))) := c_pair (by omega)
    refine q_forR (n := Z.cn (1 - side)) (ed_ixT (K := K) (j := 1 - side) (ed_ev (ev_fld (ev_var rfl) (e1 _ _ hp) S.cl S.nC (hdF_coins _ _ _ _ _)) (hf3'.ex e1)) (ed_I0 (g := fun i j => i - j) ed_ci (ed_var (d := .int side) rfl rfl)) (by omega) ixc) (by omega) (fun i σ' H' => ∃ (kvs : List (List Key × V)) (o1 o2 : Option V), σ' = [some (.ref p), some (.int side), some (.int own), some (.int coin), some (.int other), some (.ref q), o1, o2] ∧ Ex H H' ∧ H' q = some (.dT kvs) ∧ CntOf ((List.range i).map f) kvs)
      (fun H2 e2 => ⟨[], none, none, rfl, e1.trans e2, e2 _ _ hq1, CntOf.nil⟩) ?_ ?_
    · rintro i σ' H' hi ⟨kvs, o1, o2, rfl, ex, hq, cnt⟩
      have hx := pick_x s2 ho ht
      have hcc := pick_c s2 hc hi
      have cm : (pick side own other, pick side other own, pick side coin i, pick side i coin) ∈ L := hL _ (mem_cells hx.1 hx.2 hcc.1 hcc.2)
      refine q_asgR (ed_nget (P := P) (w := w) (c := (pick side own other, pick side other own, pick side coin i, pick side i coin)) (ev_fld (ev_var rfl) (ex _ _ hp) S.cl S.nB (hdF_bits _ _ _ _ _)) (hn.ex ex) cm (ed_tup (ds := [pairD (pick side own other) (pick side other own), pairD (pick side coin i) (pick side i coin)]) (eda_cons (ed_callP (args := fun a : Nat × Nat × Nat => [D.int a.1, .int a.2.1, .int a.2.2]) (pre := fun a => a.1 < 2) (res := fun a => pairD (pick a.1 a.2.1 a.2.2) (pick a.1 a.2.2 a.2.1)) (side, own, other) (eda_cons (ed_var (d := .int side) rfl rfl) (eda_cons (ed_var (d := .int own) rfl rfl) (eda_cons (ed_var (d := .int other) rfl rfl) eda_nil))) s2) (eda_cons (ed_callP (args := fun a : Nat × Nat × Nat => [D.int a.1, .int a.2.1, .int a.2.2]) (pre := fun a => a.1 < 2) (res := fun a => pairD (pick a.1 a.2.1 a.2.2) (pick a.1 a.2.2 a.2.1)) (side, coin, i) (eda_cons (ed_var (d := .int side) rfl rfl) (eda_cons (ed_var (d := .int coin) rfl rfl) (eda_cons (ed_var (d := .int i) rfl rfl) eda_nil))) s2) eda_nil)) (by simp))) fun w9 H4 e4 hw9 => ?_
      obtain ⟨b, rfl, hb⟩ := row_at (b := f i) hw9
      have hp4 := e4 _ _ hq
      have kl := cnt.len
      rw [List.length_map, List.length_range] at kl
      refine ⟨_, rfl, q, rfl, .inr ⟨kvs, .inl hp4⟩, _, rfl, valV kvs (kk (f i)), DGet.t hp4 hb, _, 1, cnt.get (f i), rfl, _, rfl, _, rfl, q, _, rfl, DPut.t hp4 hb (sz_lt (by omega)), _, _, _, rfl, Ex.mut (ex.trans e4) q0, upd_same, ?_⟩
      rw [range_snoc]
      exact cnt.put (f i)
    · rintro σ' H' ⟨kvs, o1, o2, rfl, ex, hq, cnt⟩
      exact s_ret (ev_var rfl) fun H3 e3 => k q H3 q0 (ex.trans e3) ⟨kvs, e3 _ _ hq, cnt⟩
abbrev K_h_answer (P : Program) (w : World) (K : PySem.W.Frag) (mg : Str → Option Value) (base : Heap) (C : Addr) : Prop := Fm P w K mg base C "answer" ["self", "side", "own", "other"] 2 (sp_h_answer P w C)
theorem sc_Held_answer : FnScope ["self", "side", "own", "other", "x", "y"] ["self", "side", "own", "other"] (defScope s_Held_answer) := ⟨rfl, rfl, rfl, by decide +kernel, rfl, by decide +kernel, by decide +kernel⟩
theorem ok_Held_answer {f : Addr} {fd : FuncData} (F : FnP K "answer" "Held.answer" s_Held_answer f fd) (T : Txt mg) (S : TxtH K C) (c_pair_of : K_pair_of P w K mg base) : FnOk P w K mg base CX0 2 f fd ["self", "side", "own", "other"] (sp_h_answer P w C) := by
  refine FunD.ok F sc_Held_answer (fun vs H Q E h => ?_) (fun cdv A outer s H vs Q E hr h => ?_)
  · obtain ⟨p, a, side, own, other, rfl, _⟩ := h
    rfl
  · obtain ⟨p, ⟨Z, t, M⟩, side, own, other, rfl, hAt, ⟨zok, wf, dep, sh⟩, s2, ho, ht, k⟩ := h
    simp only at zok wf dep sh ho ht
    obtain ⟨dx, f1, f2, f3, d, L, hp, hf1, hf2, hf3, hn, hL⟩ := hAt
    simp only at hf1 hf2 hf3 hn hL
    refine ⟨_, PSs.nox (pss_cons (ps_asg (pe_callF c_pair_of hr (by first | decide | omega) (pa_cons (pv 1) (pa_cons (pv 2) (pa_cons (pv 3) pa_nil)))) (k_gtup (K := K) (by rfl) (pgs_cons (pgv 4 sc_Held_answer.nd) (pgs_cons (pgv 5 sc_Held_answer.nd) pgs_nil))))
    (pss_one (ps_ret (pe_ix (k_ixT (K := K)) (pe_ix (k_ixT (K := K)) (k_fld (K := K) (pv 0)) (pv 4) (fun _ _ => rfl)) (pv 5) (fun _ _ => rfl))))), ?_⟩
    refine q_asg2 (d1 := .int ((pick side own other : Nat) : Int)) (d2 := .int ((pick side other own : Nat) : Int)) (ed_callP (args := fun a : Nat × Nat × Nat => [D.int a.1, .int a.2.1, .int a.2.2]) (pre := fun a => a.1 < 2) (res := fun a => pairD (pick a.1 a.2.1 a.2.2) (pick a.1 a.2.2 a.2.1)) (side, own, other) (eda_cons (ed_var (d := .int side) rfl rfl) (eda_cons (ed_var (d := .int own) rfl rfl) (eda_cons (ed_var (d := .int other) rfl rfl) eda_nil))) s2) fun u1 u2 H1 e1 hu1 hu2 => ?_
    have hx := pick_x s2 ho ht
    refine s_retR (ed_cell (K := K) (i := pick side own other) (j := pick side other own) (ed_ev (ev_fld (ev_var rfl) (e1 _ _ hp) S.cl S.nT (hdF_table _ _ _ _ _)) (hf1.ex e1)) (ed_var rfl hu1) (ed_var rfl hu2) sh hx.1 hx.2 rfl rfl) fun v H2 e2 hv => ?_
    cases (show v = V.int _ from hv)
    have : get2 M (pick side own other) (pick side other own) = ansO M side own other := by
      rcases (by omega : side = 0 ∨ side = 1) with e | e
      · subst e; rfl
      · subst e; rfl
    rw [this]
    exact k H2 (e1.trans e2)
abbrev K_Held (P : Program) (w : World) (K : PySem.W.Frag) (mg : Str → Option Value) (base : Heap) (C : Addr) : Prop := Fc P w K mg base "Held" C ["self", "talk", "table"] 3 (sp_Held_init P w C)
theorem sc_Held_init : FnScope ["self", "talk", "table", "x", "y"] ["self", "talk", "table"] (defScope s_Held_init) := ⟨rfl, rfl, rfl, by decide +kernel, rfl, by decide +kernel, by decide +kernel⟩
theorem ok_Held_init {f : Addr} {fd : FuncData} (F : FnP K "__init__" "Held.__init__" s_Held_init f fd) (T : Txt mg) (S : TxtH K C) (c_hold_all : K_hold_all P w K mg base C) : FnOk P w K mg base CX0 3 f fd ["self", "talk", "table"] (sp_Held_init P w C) := by
  refine FunD.ok F sc_Held_init (fun vs H Q E h => ?_) (fun cdv A outer s H vs Q E hr h => ?_)
  · obtain ⟨p, dx, v1, v2, a, rfl, _⟩ := h
    rfl
  · obtain ⟨p, dx, v1, v2, ⟨Z, t, M⟩, rfl, hp, h1, h2, ok, k⟩ := h
    simp only at h1 h2
    obtain ⟨⟨zok, wf, dep, sh⟩, right⟩ := id ok
    simp only at zok wf dep sh right
    have h1' : Dat H (.tup [.str "talk", .int Z.c0, .int Z.c1, t.d]) v1 := h1
    refine ⟨_, PSs.nox (pss_cons (ps_fld (pv 0) (pv 2) (by rfl))
    (pss_cons (ps_fld (pv 0) (pe_tup (pa_cons (pe_callB (k_len (K := K)) (by rfl) T.len bt_len (pa_cons (pv 2) pa_nil)) (pa_cons (pe_callB (k_len (K := K)) (by rfl) T.len bt_len (pa_cons (pe_ix (k_ixT (K := K)) (pv 2) pe_int (fun _ _ => rfl)) pa_nil)) pa_nil))) (by rfl))
    (pss_cons (ps_fld (pv 0) (pe_tup (pa_cons (pe_ix (k_ixT (K := K)) (pv 1) pe_int (fun _ _ => rfl)) (pa_cons (pe_ix (k_ixT (K := K)) (pv 1) pe_int (fun _ _ => rfl)) pa_nil))) (by rfl))
    (pss_cons (ps_fld (pv 0) pe_dnewN (by rfl))
    (pss_cons (ps_fld (pv 0) pe_non (by rfl))
    (pss_one (ps_for PassesOwn.never (by rfl) (pi_range1 (by rfl) T.range (pa_cons (pe_ix (k_ixT (K := K)) (k_fld (K := K) (pv 0)) pe_int (fun _ _ => rfl)) pa_nil)) (pgv 3 sc_Held_init.nd)
    (pss_one (ps_for PassesOwn.never (by rfl) (pi_range1 (by rfl) T.range (pa_cons (pe_ix (k_ixT (K := K)) (k_fld (K := K) (pv 0)) pe_int (fun _ _ => rfl)) pa_nil)) (pgv 4 sc_Held_init.nd)
    (pss_one (ps_expr (pe_methF c_hold_all hr (by first | decide | omega) (pv 0) (pa_cons (pv 1) (pa_cons (pe_tup (pa_cons (pv 3) (pa_cons (pv 4) pa_nil))) pa_nil)))))))))))))), ?_⟩
    refine q_fldR (R := fun _ v => v = v2) hp rfl S.cl S.nT (by decide) (er_ev (ev_var rfl) fun _ _ => rfl) fun v0 H0 e0 er => ?_
    have er' : v2 = v0 := er.symm
    subst er'
    have b1 : ExB p H (upd H0 p (.ins C dx (putF "table" v2 []))) := (ExB.of e0).trans ExB.upd
    have t1 : TE H (upd H0 p (.ins C dx (putF "table" v2 []))) := (TE.ex e0).trans (TE.updI (e0 _ _ hp))
    have p1 : (upd H0 p (.ins C dx (putF "table" v2 []))) p = some (.ins C dx (putF "table" v2 [])) := upd_same
    generalize upd H0 p (.ins C dx (putF "table" v2 [])) = H1 at *
    have h21 := h2.te t1 (mat_T M)
    refine q_fldR p1 rfl S.cl S.nI (Nat.lt_of_le_of_lt (lenF len0) (by decide)) (ed_tup (ds := [.int Z.X, .int Z.Y]) (eda_cons (ed_rowsN sh (ed_var rfl h21)) (eda_cons (ed_colsN sh zok.x1 (ed_var rfl h21)) eda_nil)) (by simp)) fun f2 H2 e2 hf2 => ?_
    have p2 := e2 _ _ p1
    have b3 : ExB p H (upd H2 p (.ins C dx (putF "inputs" f2 (putF "table" v2 [])))) := (b1.trans (ExB.of e2)).trans ExB.upd
    have t3 : TE H2 (upd H2 p (.ins C dx (putF "inputs" f2 (putF "table" v2 [])))) := TE.updI p2
    have t03 := (t1.trans (TE.ex e2)).trans t3
    have p3 : (upd H2 p (.ins C dx (putF "inputs" f2 (putF "table" v2 [])))) p = some (.ins C dx (putF "inputs" f2 (putF "table" v2 []))) := upd_same
    generalize upd H2 p (.ins C dx (putF "inputs" f2 (putF "table" v2 []))) = H3 at *
    have h13 := h1'.te t03 (talkD_T Z t)
    refine q_fldR p3 rfl S.cl S.nC (Nat.lt_of_le_of_lt (lenF (lenF len0)) (by decide)) (ed_tup (ds := [.int Z.c0, .int Z.c1]) (eda_cons (ed_ixT (K := K) (j := 1) (ed_var rfl h13) ed_ci rfl rfl) (eda_cons (ed_ixT (K := K) (j := 2) (ed_var rfl h13) ed_ci rfl rfl) eda_nil)) (by simp)) fun f3 H4 e4 hf3 => ?_
    have p4 := e4 _ _ p3
    have b5 : ExB p H (upd H4 p (.ins C dx (putF "coins" f3 (putF "inputs" f2 (putF "table" v2 []))))) := (b3.trans (ExB.of e4)).trans ExB.upd
    have t5 : TE H4 (upd H4 p (.ins C dx (putF "coins" f3 (putF "inputs" f2 (putF "table" v2 []))))) := TE.updI p4
    have t05 := (t03.trans (TE.ex e4)).trans t5
    have p5 : (upd H4 p (.ins C dx (putF "coins" f3 (putF "inputs" f2 (putF "table" v2 []))))) p = some (.ins C dx (putF "coins" f3 (putF "inputs" f2 (putF "table" v2 [])))) := upd_same
    have hf25 := hf2.te (t3.trans ((TE.ex e4).trans t5)) rfl
    have hf35 := hf3.te t5 rfl
    generalize upd H4 p (.ins C dx (putF "coins" f3 (putF "inputs" f2 (putF "table" v2 [])))) = H5 at *
    refine q_fldNest (P := P) (w := w) p5 rfl S.cl S.nB (Nat.lt_of_le_of_lt (lenF (lenF (lenF len0))) (by decide)) fun d hd hsys => ?_
    have npd : p ≠ d := fun z => by rw [← z, p5] at hd; cases hd
    have p6 : (upd H5 d (nestO P w d [])) p = some (.ins C dx (putF "coins" f3 (putF "inputs" f2 (putF "table" v2 [])))) := by rw [upd_ne npd]; exact p5
    have x6 : Ex H5 (upd H5 d (nestO P w d [])) := Ex.new hd
    have d6 : (upd H5 d (nestO P w d [])) d = some (nestO P w d []) := upd_same
    generalize upd H5 d (nestO P w d []) = H6 at *
    have b7 : ExB p H (upd H6 p (.ins C dx (putF "bits" (.ref d) (putF "coins" f3 (putF "inputs" f2 (putF "table" v2 [])))))) := (b5.trans (ExB.of x6)).trans ExB.upd
    have t7 : TE H6 (upd H6 p (.ins C dx (putF "bits" (.ref d) (putF "coins" f3 (putF "inputs" f2 (putF "table" v2 [])))))) := TE.updI p6
    have p7 : (upd H6 p (.ins C dx (putF "bits" (.ref d) (putF "coins" f3 (putF "inputs" f2 (putF "table" v2 [])))))) p = some (.ins C dx (putF "bits" (.ref d) (putF "coins" f3 (putF "inputs" f2 (putF "table" v2 []))))) := upd_same
    have d7 : (upd H6 p (.ins C dx (putF "bits" (.ref d) (putF "coins" f3 (putF "inputs" f2 (putF "table" v2 [])))))) d = some (nestO P w d []) := by rw [upd_ne (fun z => npd z.symm)]; exact d6
    have t57 := (TE.ex x6).trans t7
    generalize upd H6 p (.ins C dx (putF "bits" (.ref d) (putF "coins" f3 (putF "inputs" f2 (putF "table" v2 []))))) = H7 at *
    refine q_fldR (R := fun _ v => v = .non) p7 rfl S.cl S.nW (Nat.lt_of_le_of_lt (lenF (lenF (lenF (lenF len0)))) (by decide)) (er_ev ev_c fun _ _ => rfl) fun _ H7' e7' er => ?_
    subst er
    have b7 := b7.trans (ExB.of e7')
    have p7 := e7' _ _ p7
    have d7 := e7' _ _ d7
    have t57 := t57.trans (TE.ex e7')
    clear t7
    show tFor _ _ _ _ _ (upd H7' p (.ins C dx (hdF v2 f2 f3 (.ref d) .non)))
    generalize H7' = H7 at *
    have b8 : ExB p H (upd H7 p (.ins C dx (hdF v2 f2 f3 (.ref d) .non))) := b7.trans ExB.upd
    have t8 : TE H7 (upd H7 p (.ins C dx (hdF v2 f2 f3 (.ref d) .non))) := TE.updI p7
    have p8 : (upd H7 p (.ins C dx (hdF v2 f2 f3 (.ref d) .non))) p = some (.ins C dx (hdF v2 f2 f3 (.ref d) .non)) := upd_same
    have d8 : (upd H7 p (.ins C dx (hdF v2 f2 f3 (.ref d) .non))) d = some (nestO P w d []) := by rw [upd_ne (fun z => npd z.symm)]; exact d7
    have t58 := t57.trans t8
    have t08 := t05.trans t58
    generalize upd H7 p (.ins C dx (hdF v2 f2 f3 (.ref d) .non)) = H8 at *
    have n8 : NestAt P w H8 d (gOf t) [] := ⟨[], d8, hsys, Nat.le_refl _, (fun x hx => by cases hx), (fun c hc => by cases hc)⟩
    have hf28 : Dat H8 (.tup [.int Z.X, .int Z.Y]) f2 := hf25.te t58 rfl
    have hf38 := hf35.te t58 rfl
    have h28 := h2.te t08 (mat_T M)
    have h18 := h1.te t08 (talkD_T Z t)
    have hd0 : H d = none := by
      cases e : H d with
      | none => rfl
      | some o =>
        rw [b5 d o (fun z => npd z.symm) e] at hd
        cases hd
    have zx := zok.x4
    have zy := zok.y4
    refine s_forR (n := Z.X) (ed_ixT (K := K) (j := 0) (ed_ev (ev_fld (ev_var rfl) p8 S.cl S.nI (hdF_inputs _ _ _ _ _)) hf28) ed_ci rfl rfl) (by omega) (fun i σ' H' => ExB d H8 H' ∧ TE H8 H' ∧ NestAt P w H' d (gOf t) ((List.range i).flatMap (cellsX Z)) ∧ ∃ o3 o4 : Option V, σ' = [some (.ref p), some v1, some v2, o3, o4])
      (fun H9 e9 => ⟨ExB.of e9, TE.ex e9, n8.ex e9, none, none, rfl⟩) ?_ (fun σ' H' ⟨eb, te, n', o3, o4, e⟩ => k H' (fun a o na ha => eb a o (ne_of_none ha hd0) (b8 a o na ha)) ⟨dx, v2, f2, f3, d, cellsA Z, eb p _ npd p8, h28.te te (mat_T M), hf28.te te rfl, hf38.te te rfl, n', fun c hc => hc⟩)
    rintro x σ' H9 hx ⟨eb9, te9, n9, o3, o4, rfl⟩
    have len9 := flat_len (fun x => cellsX_len zok x) x
    generalize hL9 : (List.range x).flatMap (cellsX Z) = L9 at *
    refine s_forR (n := Z.Y) (ed_ixT (K := K) (j := 1) (ed_ev (ev_fld (ev_var rfl) (eb9 p _ npd p8) S.cl S.nI (hdF_inputs _ _ _ _ _)) (hf28.te te9 rfl)) ed_ci rfl rfl) (by omega) (fun i σ' H' => ExB d H8 H' ∧ TE H8 H' ∧ NestAt P w H' d (gOf t) (L9 ++ (List.range i).flatMap (cellsXY Z x)) ∧ ∃ o4 : Option V, σ' = [some (.ref p), some v1, some v2, some (.int x), o4])
      (fun H10 e10 => ⟨eb9.trans (ExB.of e10), te9.trans (TE.ex e10), by
        rw [List.range_zero, List.flatMap_nil, List.append_nil]; exact n9.ex e10, _, rfl⟩) ?_ (fun σ' H' ⟨eb, te, n', o4, e⟩ => ⟨eb, te, by rw [flat_snoc, hL9]; exact n', _, _, e⟩)
    rintro y σ' H10 hy ⟨eb10, te10, n10, o4, rfl⟩
    have len10 := flat_len (fun y => cellsXY_len zok x y) y
    refine ⟨_, rfl, p, dx, _, rfl, eb10 p _ npd p8, hdF_no _ _ _ _ _ (by decide +kernel) (by decide +kernel) (by decide +kernel) (by decide +kernel) (by decide +kernel), _, rfl, ?_⟩
    refine ed_tup (ds := [.int x, .int y]) (eda_cons (ed_var (d := .int x) (by rfl) rfl) (eda_cons (ed_var (d := .int y) (by rfl) rfl) eda_nil)) (by simp) H10 (Ex.refl _) _ fun u H11 e11 hu => ?_
    refine ⟨p, dx, d, v1, u, v2, f2, f3, ⟨Z, t, M⟩, x, y, L9 ++ (List.range y).flatMap (cellsXY Z x), rfl, e11 _ _ (eb10 p _ npd p8), (h28.te te10 (mat_T M)).ex e11, (hf38.te te10 rfl).ex e11, n10.ex e11, (h18.te te10 (talkD_T Z t)).ex e11, hu, ok, hx, hy, by rw [List.length_append]; omega, fun H12 eb12 te12 n12 => ⟨eb10.trans ((ExB.of e11).trans eb12), te10.trans ((TE.ex e11).trans te12), ?_, _, rfl⟩⟩
    rw [flat_snoc, ← List.append_assoc]
    exact n12
end
end JH
set_option Elab.async false
set_option maxRecDepth 100000
set_option maxHeartbeats 4000000
/-! what is learned with one coin; with all; the flaw -/
namespace JH
open PySem PySem.Spec PyProof.Rows L2 Evl
theorem k_enum {X : Cx} {K : PySem.W.Frag} {e : Expr} {ta : TA} {p pos tpos : Pos} {elts : List Expr} {kk : Nat} (hg : Gl X "enumerate") (hm : X.mg "enumerate" = none) (ha : PA X [e] ta) (hK : X.K = K := by rfl) (hs : starEach [e] X.env = [(false, eval e X.env)] := by rfl) :
    PI X (.Tuple elts kk tpos) (.Call (.Name "enumerate" p) [e] [] pos) (iEnum K ta) := by subst hK; exact pi_enum hg hm ha hs
theorem q_newK {σ : L2.St} {H : Hp} {DD : Ends} {tz : TS} {i : Nat} (k : ∀ p H1, H p = none → Ex H H1 → H1 p = some (.dK []) → tz DD (σ.set i (some (.ref p))) H1) : tSeq (tAsg tDNewK (gName i)) tz DD σ H := fun p hp => k p _ hp (Ex.new hp) upd_same
theorem cnt_same {rows r2 : List (List Int)} {kvs : List (List Key × V)} (c : CntOf rows kvs) (c' : CntOf r2 kvs) (b : List Int) : rows.count b = r2.count b := by
  have h1 := c.get b
  rw [c'.get b] at h1
  injection h1 with h1
  omega
theorem cntAt_same {H : Hp} {q : Addr} {r1 r2 : List (List Int)} (a : CntAt H q r1) (b : CntAt H q r2) (x : List Int) : r1.count x = r2.count x := by
  obtain ⟨k1, h1, c1⟩ := a
  obtain ⟨k2, h2, c2⟩ := b
  rw [h1] at h2
  cases h2
  exact cnt_same c1 c2 x
theorem neDT_unl {r1 r2 : List (List Int)} {k1 k2 : List (List Key × V)} (c1 : CntOf r1 k1) (c2 : CntOf r2 k2) : (!eqDT k1 k2) = decide (unl r1 r2 ≠ []) := by
  have h := (eqDT_iff c1 c2).trans unl_nil.symm
  by_cases e : unl r1 r2 = []
  · rw [h.mpr e]; simp [e]
  · have : eqDT k1 k2 = false := by
      cases he : eqDT k1 k2 with
      | false => rfl
      | true => exact absurd (h.mp he) e
    rw [this]; simp [e]
theorem unl_self (r : List (List Int)) : unl r r = [] := unl_nil.mpr fun _ => rfl
theorem lrnC_tup {Z : Sz} {t : Tr} {M : List (List Int)} {side own coin : Nat} : ∀ d ∈ lrnC Z t M side own coin, ∃ ds, d = .tup ds := fun d hd => by
  obtain ⟨y, hy, hd⟩ := List.mem_flatMap.mp hd
  obtain ⟨i, hi, hd⟩ := List.mem_flatMap.mp hd
  unfold lrn2 at hd
  split at hd
  · obtain ⟨b, hb, rfl⟩ := List.mem_map.mp hd
    exact ⟨_, rfl⟩
  · cases hd
theorem headD_T {L : List D} (h : D.TL L = true) : (headD L).T = true := by
  cases L with
  | nil => rfl
  | cons d L =>
    have t2 : d.T = true ∧ D.TL L = true := by simpa [D.TL] using h
    exact t2.1
section
variable {P : Program} {w : World} {K : PySem.W.Frag} {mg : Str → Option Value} {base : Heap} {C : Addr}
section
variable {σ : L2.St} {H H' : Hp} {ta tb te td ty : L2.TE}
theorem ed_neDT {pa pb : Addr} {r1 r2 : List (List Int)} (ha : Ev ta σ H (.ref pa)) (hb : Ev tb σ H (.ref pb)) (ca : CntAt H pa r1) (cb : CntAt H pb r2) : EvD (tOp rNeDT ta tb) σ H (.bl (decide (unl r1 r2 ≠ []))) := fun H1 e1 Q q =>
  ha H1 e1 _ fun H2 e2 => hb H2 (e1.trans e2) _ fun H3 e3 => by
    obtain ⟨k1, h1, c1⟩ := ca.ex ((e1.trans e2).trans e3)
    obtain ⟨k2, h2, c2⟩ := cb.ex ((e1.trans e2).trans e3)
    refine ⟨pa, pb, k1, k2, rfl, rfl, h1, h2, c1.ints, c2.ints, ?_⟩
    rw [neDT_unl c1 c2]
    exact q _ H3 (e2.trans e3) rfl
end
abbrev K_learned_with (P : Program) (w : World) (K : PySem.W.Frag) (mg : Str → Option Value) (base : Heap) (C : Addr) : Prop := Fm P w K mg base C "learned_with" ["self", "side", "own", "coin"] 3 (sp_learned_with P w C)
theorem sc_Held_learned_with : FnScope ["self", "side", "own", "coin", "counts", "other", "answers", "first", "is_like", "answer", "y", "z", "bits", "numbers"] ["self", "side", "own", "coin"] (defScope s_Held_learned_with) := ⟨rfl, rfl, rfl, by decide +kernel, rfl, by decide +kernel, by decide +kernel⟩
theorem ok_Held_learned_with {f : Addr} {fd : FuncData} (F : FnP K "learned_with" "Held.learned_with" s_Held_learned_with f fd) (T : Txt mg) (S : TxtH K C) (c_counts : K_h_counts P w K mg base C) (c_answer : K_h_answer P w K mg base C) (c_first_unlike : K_first_unlike P w K mg base) : FnOk P w K mg base CX0 3 f fd ["self", "side", "own", "coin"] (sp_learned_with P w C) := by
  refine FunD.ok F sc_Held_learned_with (fun vs H Q E h => ?_) (fun cdv A outer s H vs Q E hr h => ?_)
  · obtain ⟨p, a, side, own, coin, rfl, _⟩ := h
    rfl
  · obtain ⟨p, ⟨Z, t, M⟩, side, own, coin, rfl, hAt, ok, s2, ho, hc, k⟩ := h
    obtain ⟨zok, wf, dep, sh⟩ := id ok
    simp only at zok wf dep sh ho hc
    obtain ⟨dx, f1, f2, f3, d, L, hp, hf1, hf2, hf3, hn, hL⟩ := id hAt
    simp only at hf1 hf2 hf3 hn hL
    have hf2' : Dat H (.tup [.int Z.X, .int Z.Y]) f2 := hf2
    have st := sz_le4 zok (1 - side)
    generalize hnn : Z.sz (1 - side) = n at *
    refine ⟨_, PSs.nox (pss_cons (ps_setLc (i := 4) (own := [("other", 5)]) (by rfl) sc_Held_learned_with.nd rfl rfl (sw_true rfl rfl rfl (by decide +kernel)) (pi_range1 (by rfl) T.range (pa_cons (pe_ix (k_ixT (K := K)) (k_fld (K := K) (pv 0)) (pe_op op_sub pe_int (pv 1)) (fun _ _ => rfl)) pa_nil)) (blkOk_by (by kernel_rfl)) (fun _ _ _ _ _ => (pgv 5 sc_Held_learned_with.nd)) (fun _ _ _ _ _ => pts_nil) (fun _ _ _ _ _ => (pe_methF c_counts hr (by first | decide | omega) (pv 0) (pa_cons (pv 1) (pa_cons (pv 2) (pa_cons (pv 3) (pa_cons (pv 5) pa_nil)))))))
    (pss_cons (ps_setLc (i := 6) (own := [("other", 5)]) (by rfl) sc_Held_learned_with.nd rfl rfl (sw_true rfl rfl rfl (by decide +kernel)) (pi_range1 (by rfl) T.range (pa_cons (pe_ix (k_ixT (K := K)) (k_fld (K := K) (pv 0)) (pe_op op_sub pe_int (pv 1)) (fun _ _ => rfl)) pa_nil)) (blkOk_by (by kernel_rfl)) (fun _ _ _ _ _ => (pgv 5 sc_Held_learned_with.nd)) (fun _ _ _ _ _ => pts_nil) (fun _ _ _ _ _ => (pe_methF c_answer hr (by first | decide | omega) (pv 0) (pa_cons (pv 1) (pa_cons (pv 2) (pa_cons (pv 5) pa_nil))))))
    (pss_cons (psv 7 sc_Held_learned_with.nd pe_dnewK)
    (pss_cons (psv 8 sc_Held_learned_with.nd pe_bl)
    (pss_cons (ps_for PassesOwn.never (by rfl) (k_enum (K := K) (by rfl) T.enumerate (pa_cons (pv 6) pa_nil)) (k_gtup (K := K) (by rfl) (pgs_cons (pgv 5 sc_Held_learned_with.nd) (pgs_cons (pgv 9 sc_Held_learned_with.nd) pgs_nil)))
    (pss_one (ps_if (pt_cmpR (op_neDT hr.units) (pe_dsetd (pv 7) (pv 9) (pe_ix (k_ixL (K := K)) (pv 4) (pv 5) (fun _ _ => rfl)) ⟨by rfl, by rfl, by rfl, by rfl⟩) (pe_ix (k_ixL (K := K)) (pv 4) (pv 5) (fun _ _ => rfl)) (nomark _))
    (pss_one (psv 8 sc_Held_learned_with.nd pe_bl))
    pss_nil)))
    (pss_cons (ps_if (pt_val (pv 8))
    (pss_one (ps_ret pe_non))
    pss_nil)
    (pss_cons (ps_for PassesOwn.never (by rfl) (pi_range1 (by rfl) T.range (pa_cons (pe_callB (k_len (K := K)) (by rfl) T.len bt_len (pa_cons (pv 6) pa_nil)) pa_nil)) (pgv 10 sc_Held_learned_with.nd)
    (pss_one (ps_for PassesOwn.never (by rfl) (pi_range2 (by rfl) T.range (pa_cons (pe_op op_add (pv 10) pe_int) (pa_cons (pe_callB (k_len (K := K)) (by rfl) T.len bt_len (pa_cons (pv 6) pa_nil)) pa_nil))) (pgv 11 sc_Held_learned_with.nd)
    (pss_one (ps_if (PW.pt (pw_and (pt_cmpR op_eq (pe_ix (k_ixL (K := K)) (pv 6) (pv 10) (fun _ _ => rfl)) (pe_ix (k_ixL (K := K)) (pv 6) (pv 11) (fun _ _ => rfl)) (nomark _)) (pw_and1 (pt_cmpR (op_neDT hr.units) (pe_ix (k_ixL (K := K)) (pv 4) (pv 10) (fun _ _ => rfl)) (pe_ix (k_ixL (K := K)) (pv 4) (pv 11) (fun _ _ => rfl)) (nomark _)))))
    (pss_cons (ps_asg (pe_callF c_first_unlike hr (by first | decide | omega) (pa_cons (pe_ix (k_ixL (K := K)) (pv 4) (pv 10) (fun _ _ => rfl)) (pa_cons (pe_ix (k_ixL (K := K)) (pv 4) (pv 11) (fun _ _ => rfl)) pa_nil))) (k_gtup (K := K) (by rfl) (pgs_cons (pgv 12 sc_Held_learned_with.nd) (pgs_cons (pgv 13 sc_Held_learned_with.nd) pgs_nil))))
    (pss_one (ps_ret (pe_tup (pa_cons pe_str (pa_cons (pv 1) (pa_cons (pv 2) (pa_cons (pv 3) (pa_cons (pe_tup (pa_cons (pv 10) (pa_cons (pv 11) pa_nil))) (pa_cons (pv 12) (pa_cons (pv 13) pa_nil)))))))))))
    pss_nil)))))
    (pss_one (ps_ret pe_non))))))))), ?_⟩
    have szAt : ∀ (σ' : L2.St) (H' : Hp), Ex H H' → σ'[0]? = some (some (.ref p)) → σ'[1]? = some (some (.int (side : Int))) → EvD (tOp (rIxT K) (tFld K (tVar 0) "inputs") (tOp (rI0 fun i j => .int (i - j)) (tC (.int 1)) (tVar 1))) σ' H' (.int (n : Int)) := fun σ' H' e g0 g1 =>
      ed_ixT (K := K) (j := 1 - side) (ed_ev (ev_fld (ev_var g0) (e _ _ hp) S.cl S.nI (hdF_inputs _ _ _ _ _)) (hf2'.ex e)) (ed_I0 (g := fun i j => i - j) ed_ci (ed_var (d := .int side) g1 rfl)) (by omega) (by rw [← hnn]; exact sz_pair1 s2)
    refine q_asgNR (er_lcV (R := fun j H v => ∃ q, v = .ref q ∧ CntAt H q (rowsOf Z t side own coin j)) (n := n) (fun i H H' v ne ⟨q, e, c⟩ => ⟨q, e, c.ne ne⟩) (szAt _ H (Ex.refl _) rfl rfl) (by omega) (fun _ => rfl) (fun j H1 e1 hj => ?_)) fun lc cs H1 lc0 e1 hlc hcl hcs => ?_
    · refine er_meth (ev_var rfl) (e1 _ _ hp) (hdF_no _ _ _ _ _ (by decide +kernel) (by decide +kernel) (by decide +kernel) (by decide +kernel) (by decide +kernel)) (eda_cons (ed_var (d := .int side) rfl rfl) (eda_cons (ed_var (d := .int own) rfl rfl) (eda_cons (ed_var (d := .int coin) rfl rfl) (eda_cons (ed_var (d := .int j) rfl rfl) eda_nil)))) fun vs H2 e2 hvs Q' q' => ?_
      obtain ⟨u1, u2, u3, u4, rfl, g1, g2, g3, g4⟩ := datL4 hvs
      cases (show u1 = V.int _ from g1)
      cases (show u2 = V.int _ from g2)
      cases (show u3 = V.int _ from g3)
      cases (show u4 = V.int _ from g4)
      exact ⟨p, ⟨Z, t, M⟩, side, own, coin, j, rfl, hAt.ex (e1.trans e2), ok, s2, ho, hc, by show j < Z.sz (1 - side); omega, fun q H3 _ e3 cq => q' _ H3 e3 ⟨q, rfl, cq⟩⟩
    · refine q_asgN (er_lcR (f := fun j => D.int (ansO M side own j)) (n := n) (szAt _ H1 e1 rfl rfl) (by omega) (fun _ => rfl) (fun _ => rfl) (fun j H2 e2 hj => ?_)) fun la as H2 la0 e2 hla has => ?_
      · refine er_meth (ev_var rfl) ((e1.trans e2) _ _ hp) (hdF_no _ _ _ _ _ (by decide +kernel) (by decide +kernel) (by decide +kernel) (by decide +kernel) (by decide +kernel)) (eda_cons (ed_var (d := .int side) rfl rfl) (eda_cons (ed_var (d := .int own) rfl rfl) (eda_cons (ed_var (d := .int j) rfl rfl) eda_nil))) fun vs H3 e3 hvs Q' q' => ?_
        obtain ⟨u1, u2, u3, rfl, g1, g2, g3⟩ := datL3 hvs
        cases (show u1 = V.int _ from g1)
        cases (show u2 = V.int _ from g2)
        cases (show u3 = V.int _ from g3)
        exact ⟨p, ⟨Z, t, M⟩, side, own, j, rfl, hAt.ex ((e1.trans e2).trans e3), ok, s2, ho, by show j < Z.sz (1 - side); omega, fun H4 e4 => q' _ H4 e4 rfl⟩
      · refine q_newK fun df H3 df0 e3 hdf => ?_
        refine q_asg (v := .bl true) ev_c fun H4 e4 => ?_
        have e12 := e1.trans e2
        have e24 := e3.trans e4
        have al := has.length
        rw [List.length_map, List.length_range] at al
        have asAt : ∀ j, j < n → as[j]? = some (.int (ansO M side own j)) := fun j hj => by
          obtain ⟨v, hv, dv⟩ := has.get (i := j) (d := .int (ansO M side own j)) (by rw [List.getElem?_map, List.getElem?_range hj]; rfl)
          rw [hv, show v = V.int _ from dv]
        have csAt : ∀ j, j < n → ∃ q, cs[j]? = some (.ref q) ∧ CntAt H2 q (rowsOf Z t side own coin j) := fun j hj => by
          have hg : cs[j]? = some (cs[j]'(by omega)) := List.getElem?_eq_getElem (by omega)
          obtain ⟨q, e, c⟩ := hcs j _ hg
          exact ⟨q, by rw [hg, e], c.ex e2⟩
        have hlc2 := e2 _ _ hlc
        let R : Nat → List (List Int) := fun j => rowsOf Z t side own coin j
        let A : Nat → Int := fun j => ansO M side own j
        let FIN : L2.St → Hp → Prop := fun σ' H' => Ex H2 H' ∧ ∃ (b : Bool) (o5 o9 : Option V), σ' = [some (.ref p), some (.int side), some (.int own), some (.int coin), some (.ref lc), o5, some (.ref la), some (.ref df), some (.bl b), o9, none, none, none, none] ∧
          (b = true → ∀ y z, y < n → z < n → A y = A z → ∀ c, (R y).count c = (R z).count c)
        have loop2 : ∀ (tz : TS) (DD : Ends) (σ4 : L2.St) (H4 : Hp), σ4 = [some (.ref p), some (.int side), some (.int own), some (.int coin), some (.ref lc), none, some (.ref la), some (.ref df), some (.bl true), none, none, none, none, none] → Ex H2 H4 → H4 df = some (.dK []) → (∀ σ' H', FIN σ' H' → tz DD σ' H') →
            tSeq (tFor (iEnum K (tCons (tVar 6) tNil)) (gTup K 2 (gCons (gName 5) (gCons (gName 9) gNil))) (tIfS (tTest (tOp rNeDT (tDSetd (tVar 7) (tVar 9) (tOp (rIxL K) (tVar 4) (tVar 5))) (tOp (rIxL K) (tVar 4) (tVar 5)))) (tAsg (tC (.bl false)) (gName 8)) tNext)) tz DD σ4 H4 := by
          intro tz DD σ4 H4 eσ e24 hdf fin
          subst eσ
          refine ⟨_, rfl, la, as, rfl, SqL.of (e24 _ _ hla), for_it (D := { DD with nx := tz DD }) (walk_enum (xs := as)) (fun i σ' H' => Ex H2 H' ∧ ∃ (kvs : List (Key × V)) (b : Bool) (o5 o9 : Option V), σ' = [some (.ref p), some (.int side), some (.int own), some (.int coin), some (.ref lc), o5, some (.ref la), some (.ref df), some (.bl b), o9, none, none, none, none] ∧ H' df = some (.dK kvs) ∧ kvs.length ≤ i ∧
            (∀ k v, valV kvs k = some v → ∃ m, m < i ∧ k = .inl (A m) ∧ cs[m]? = some v) ∧ (b = true → ∀ j, j < i → ∃ m v, m < n ∧ valV kvs (.inl (A j)) = some v ∧ cs[m]? = some v ∧ ∀ c, (R j).count c = (R m).count c)) ?_ ?_ ?_ ?_⟩
          · exact ⟨e24, [], true, none, none, rfl, hdf, Nat.le_refl _, (fun k v z => by cases z), fun _ j hj => by omega⟩
          · exact fun i σ' H' _ pp => SqL.of (pp.1 _ _ hla)
          · rintro i x σ' H5 H6 hi ⟨ex5, kvs, b, o5, o9, rfl, hdf5, hkl, K1, K2⟩ ⟨T, x1, x2, rfl, hT, rfl, hx1, hx2⟩
            rw [al] at hi
            have e1' : x1 = V.int (i : Int) := (Option.some.inj hx1).symm
            have e2' : x2 = V.int (A i) := by
              have hx2' : as[i]? = some x2 := hx2
              rw [asAt i hi] at hx2'
              exact (Option.some.inj hx2').symm
            subst e1' e2'
            refine ⟨T, _, rfl, SqT.of upd_same, rfl, _, _, rfl, _, _, rfl, rfl, ?_⟩
            have e56 : Ex H5 (upd H5 T (.tup [V.int i, V.int (A i)])) := Ex.new hT
            have hdf6 := e56 _ _ hdf5
            generalize upd H5 T (.tup [V.int i, V.int (A i)]) = H6 at *
            have ex6 := ex5.trans e56
            obtain ⟨qi, hqi, ci⟩ := csAt i hi
            have ci6 := ci.ex ex6
            have hlc6 := ex6 _ _ hlc2
            obtain ⟨ki, hki, cki⟩ := ci6
            have hlc6' := hlc6
            refine ⟨_, rfl, df, rfl, .inl ⟨kvs, .inl hdf6⟩, _, rfl, _, rfl, _, rfl, lc, cs, (i : Int), .ref qi, rfl, rfl, sq_of hlc6, atI_nat hqi, kvs, .inl (A i), hdf6, rfl, sz_lt (by omega), fun v0 hv0 => ?_, fun hv0 => ?_⟩
            · obtain ⟨m, hm, ek, hcm⟩ := K1 _ _ hv0
              obtain ⟨qm, hqm, cm⟩ := csAt m (by omega)
              rw [hqm] at hcm
              cases hcm
              obtain ⟨km, hkm, ckm⟩ := cm.ex ex6
              refine ⟨_, rfl, _, rfl, lc, cs, (i : Int), .ref qi, rfl, rfl, sq_of hlc6, atI_nat hqi, qm, qi, km, ki, rfl, rfl, hkm, hki, ckm.ints, cki.ints, _, rfl, ?_⟩
              cases he : eqDT km ki with
              | true =>
                rw [if_neg (show ¬ (!true) = true from by decide)]
                refine ⟨ex6, kvs, b, _, _, rfl, hdf6, by omega, fun k v hv => ?_, fun hb j hj => ?_⟩
                · obtain ⟨m, h1, h2⟩ := K1 k v hv
                  exact ⟨m, by omega, h2⟩
                · by_cases hji : j < i
                  · exact K2 hb j hji
                  · have : j = i := by omega
                    subst this
                    exact ⟨m, _, by omega, hv0, hqm, fun c => ((eqDT_iff ckm cki).mp he c).symm⟩
              | false =>
                rw [if_pos (show (!false) = true from by decide)]
                refine ⟨ex6, kvs, false, _, _, rfl, hdf6, by omega, fun k v hv => ?_, fun hb => by cases hb⟩
                obtain ⟨m, h1, h2⟩ := K1 k v hv
                exact ⟨m, by omega, h2⟩
            · have ndi : df ≠ qi := fun z => by rw [z, hki] at hdf6; cases hdf6
              have ndl : df ≠ lc := fun z => by rw [z, hlc6] at hdf6; cases hdf6
              have hdf7 : (upd H6 df (.dK (putK kvs (.inl (A i)) (.ref qi)))) df = some (.dK (putK kvs (.inl (A i)) (.ref qi))) := upd_same
              have ex7 : Ex H2 (upd H6 df (.dK (putK kvs (.inl (A i)) (.ref qi)))) := Ex.mut ex6 (fresh_back (Ex.refl H2) df0)
              have hki7 : (upd H6 df (.dK (putK kvs (.inl (A i)) (.ref qi)))) qi = some (.dT ki) := by rw [upd_ne (fun z => ndi z.symm)]; exact hki
              have hlc7 := ex7 _ _ hlc2
              generalize upd H6 df (.dK (putK kvs (.inl (A i)) (.ref qi))) = H7 at *
              refine ⟨_, rfl, _, rfl, lc, cs, (i : Int), .ref qi, rfl, rfl, sq_of hlc7, atI_nat hqi, qi, qi, ki, ki, rfl, rfl, hki7, hki7, cki.ints, cki.ints, _, rfl, ?_⟩
              have he : eqDT ki ki = true := (eqDT_iff cki cki).mpr fun _ => rfl
              rw [he]
              refine iteF ?_
              refine ⟨ex7, putK kvs (.inl (A i)) (.ref qi), b, _, _, rfl, hdf7, ?_, fun k v hv => ?_, fun hb j hj => ?_⟩
              · have := length_putK kvs (.inl (A i)) (.ref qi)
                omega
              · rw [valV_put] at hv
                by_cases ek : k = .inl (A i)
                · rw [if_pos ek] at hv
                  cases hv
                  exact ⟨i, by omega, ek, hqi⟩
                · rw [if_neg ek] at hv
                  obtain ⟨m, h1, h2⟩ := K1 k v hv
                  exact ⟨m, by omega, h2⟩
              · by_cases hji : j < i
                · obtain ⟨m, v, h1, h2, h3⟩ := K2 hb j hji
                  refine ⟨m, v, h1, ?_, h3⟩
                  rw [valV_put, if_neg (fun z => by rw [z, hv0] at h2; cases h2)]
                  exact h2
                · have : j = i := by omega
                  subst this
                  exact ⟨j, .ref qi, hi, by rw [valV_put, if_pos rfl], hqi, fun _ => rfl⟩
          · rintro σ' H5 ⟨ex5, kvs, b, o5, o9, rfl, hdf5, hkl, K1, K2⟩
            refine fin _ _ ⟨ex5, b, _, _, rfl, fun hb y z hy hz eA c => ?_⟩
            rw [al] at K2
            obtain ⟨m1, u1, hm1, hu1, hc1, hr1⟩ := K2 hb y hy
            obtain ⟨m2, u2, hm2, hu2, hc2, hr2⟩ := K2 hb z hz
            rw [eA, hu2] at hu1
            cases hu1
            obtain ⟨q1, hq1, c1⟩ := csAt m1 hm1
            obtain ⟨q2, hq2, c2⟩ := csAt m2 hm2
            rw [hc1] at hq1
            rw [hc2] at hq2
            cases hq1
            cases hq2
            rw [hr1, hr2]
            exact cntAt_same c1 c2 c
        refine loop2 _ _ _ H4 rfl e24 (e4 _ _ hdf) fun σ' H5 ⟨ex5, b, o5, o9, eσ, hb⟩ => ?_
        subst eσ
        have e05 := e12.trans ex5
        refine q_when (b := b) (et_v (ed_var (d := .bl b) rfl rfl)) (fun eb H6 e6 => ?_) (fun _ H6 e6 => ?_)
        · refine s_ret ev_c fun H7 e7 => k _ H7 (e05.trans (e6.trans e7)) ?_
          show Dat H7 (headD (lrnC Z t M side own coin)) .non
          rw [lrnC_nil fun y z hy hz => hb eb y z (by omega) (by omega)]
          rfl
        · have e06 := e05.trans e6
          have ex6 := ex5.trans e6
          have hla6 := ex6 _ _ hla
          have lenA : ∀ (σ7 : L2.St) (H7 : Hp), Ex H6 H7 → σ7[6]? = some (some (.ref la)) → EvD (tCB (rLenS K) (tCons (tVar 6) tNil)) σ7 H7 (.int (n : Int)) := fun σ7 H7 e7 g => by
            have := ed_i (ev_len (K := K) (ev_var g) (sq_of (e7 _ _ hla6)))
            rw [al] at this
            exact this
          refine q_forR (n := n) (lenA _ H6 (Ex.refl _) rfl) (by omega) (fun i σ' H' => Ex H6 H' ∧ (∀ j, j < i → lrn1 Z t M side own coin n j = []) ∧ ∃ o10 o11 : Option V, σ' = [some (.ref p), some (.int side), some (.int own), some (.int coin), some (.ref lc), o5, some (.ref la), some (.ref df), some (.bl b), o9, o10, o11, none, none]) (fun H7 e7 => ⟨e7, (fun j hj => by omega), none, none, rfl⟩) ?_ ?_
          · rintro y σ' H7 hy ⟨ex7, l1, o10, o11, rfl⟩
            refine s_forR2 (lo := y + 1) (n := n) (ed_I0 (g := fun i j => i + j) (ed_var (d := .int y) rfl rfl) ed_ci) (lenA _ H7 ex7 rfl) (by omega) (by omega) (fun i σ' H' => Ex H7 H' ∧ (∀ j, j < i → lrn2 Z t M side own coin y (y + 1 + j) = []) ∧ ∃ o11 : Option V, σ' = [some (.ref p), some (.int side), some (.int own), some (.int coin), some (.ref lc), o5, some (.ref la), some (.ref df), some (.bl b), o9, some (.int y), o11, none, none]) (fun H8 e8 => ⟨e8, (fun j hj => by omega), _, rfl⟩) ?_ ?_
            · rintro i σ' H8 hi ⟨ex8, l2, o11, rfl⟩
              have ex68 := ex7.trans ex8
              have ex28 := ex6.trans ex68
              generalize hz : y + 1 + i = z at *
              obtain ⟨qy, hqy, cy⟩ := csAt y hy
              obtain ⟨qz, hqz, cz⟩ := csAt z hi
              have evA : ∀ (j m : Nat) (σ9 : L2.St) (H9 : Hp), Ex H8 H9 → m < n → σ9[6]? = some (some (.ref la)) → σ9[j]? = some (some (.int (m : Int))) → EvD (tOp (rIxL K) (tVar 6) (tVar j)) σ9 H9 (.int (A m)) := fun j m σ9 H9 e9 hm g6 gj =>
                ed_i (ev_op (ev_var g6) (ev_var gj) (rv_ixL (sq_of ((ex68.trans e9) _ _ hla6)) (atI_nat (asAt m hm))))
              have evC : ∀ (j m : Nat) (q : Addr) (σ9 : L2.St) (H9 : Hp), Ex H8 H9 → cs[m]? = some (.ref q) → σ9[4]? = some (some (.ref lc)) → σ9[j]? = some (some (.int (m : Int))) → Ev (tOp (rIxL K) (tVar 4) (tVar j)) σ9 H9 (.ref q) := fun j m q σ9 H9 e9 hq g4 gj =>
                ev_op (ev_var g4) (ev_var gj) (rv_ixL (sq_of ((ex28.trans e9) _ _ hlc2)) (atI_nat hq))
              refine s_when (b := decide (A y = A z) && decide (unl (R y) (R z) ≠ [])) (et_and (et_b (ed_eqI (evA 10 y _ H8 (Ex.refl _) hy rfl rfl) (evA 11 z _ H8 (Ex.refl _) hi rfl rfl))) (fun _ => et_b (ed_neDT (evC 10 y qy _ H8 (Ex.refl _) hqy rfl rfl) (evC 11 z qz _ H8 (Ex.refl _) hqz rfl rfl) (cy.ex ex28) (cz.ex ex28)))) (fun hb H9 e9 => ?_) (fun hb H9 e9 => ⟨ex8.trans e9, fun j hj => ?_, _, rfl⟩)
              · rw [Bool.and_eq_true] at hb
                have eA := of_decide_eq_true hb.1
                have un := of_decide_eq_true hb.2
                obtain ⟨b0, rest, eu⟩ : ∃ b0 rest, unl (R y) (R z) = b0 :: rest := by
                  cases h : unl (R y) (R z) with
                  | nil => exact absurd h un
                  | cons b0 rest => exact ⟨b0, rest, rfl⟩
                have ex29 := ex28.trans e9
                refine q_asg2 (d1 := bitsD b0) (d2 := .tup [.int ((R y).count b0 : Nat), .int ((R z).count b0 : Nat)]) (er_call (R := fun _ vs => vs = [.ref qy, .ref qz]) (fun H10 e10 Q' q' => evC 10 y qy _ H9 e9 hqy rfl rfl H10 e10 _ fun H11 e11 => evC 11 z qz _ H9 e9 hqz rfl rfl H11 (e10.trans e11) _ fun H12 e12 => q' _ H12 (e11.trans e12) rfl) (fun vs H10 e10 evs Q' q' => ?_)) fun u1 u2 H10 e10 hu1 hu2 => ?_
                · subst evs
                  exact ⟨qy, qz, R y, R z, rfl, cy.ex (ex29.trans e10), cz.ex (ex29.trans e10), by show (rowsOf Z t side own coin y).length ≤ 3; rw [rowsOf_len]; exact cn_le3 zok _, by show (rowsOf Z t side own coin z).length ≤ 3; rw [rowsOf_len]; exact cn_le3 zok _, rowsOf_ne zok t side own coin y, rows_ok wf dep s2 ho hc (by omega) (by omega), un, fun v H11 b1 r1 e11 eb hv => q' v H11 e11 (by
                    rw [eu] at eb
                    cases eb
                    exact hv)⟩
                · refine s_retD (ed_tup (ds := [.str "learns", .int side, .int own, .int coin, .tup [.int y, .int z], bitsD b0, .tup [.int ((R y).count b0 : Nat), .int ((R z).count b0 : Nat)]]) (eda_cons ed_cs (eda_cons (ed_var (d := .int side) rfl rfl) (eda_cons (ed_var (d := .int own) rfl rfl) (eda_cons (ed_var (d := .int coin) rfl rfl) (eda_cons (ed_tup (ds := [.int y, .int z]) (eda_cons (ed_var (d := .int y) rfl rfl) (eda_cons (ed_var (d := .int z) rfl rfl) eda_nil)) (by simp)) (eda_cons (ed_var rfl hu1) (eda_cons (ed_var rfl hu2) eda_nil))))))) (by simp)) fun v H11 e11 hv => k v H11 (e06.trans (ex68.trans (e9.trans (e10.trans e11)))) ?_
                  have hd : (lrnC Z t M side own coin).head? = some (learnD side own coin y z (R y) (R z) b0) := by
                    unfold lrnC
                    rw [hnn]
                    refine flat_head (i := y) l1 ?_ hy
                    refine flat_head (i := i) l2 ?_ (by omega)
                    rw [hz]
                    unfold lrn2
                    rw [if_pos eA]
                    unfold lrnPair
                    show ((unl (R y) (R z)).map _).head? = _
                    rw [eu]
                    rfl
                  show Dat H11 (headD (lrnC Z t M side own coin)) v
                  unfold headD
                  rw [hd]
                  exact hv
              · by_cases hji : j < i
                · exact l2 j hji
                · have : j = i := by omega
                  subst this
                  rw [hz]
                  unfold lrn2
                  split
                  · rename_i eA
                    have eA' : A y = A z := eA
                    rw [decide_eq_true eA', Bool.true_and] at hb
                    have un := of_decide_eq_false hb
                    have un' : unl (R y) (R z) = [] := Classical.byContradiction un
                    unfold lrnPair
                    show (unl (R y) (R z)).map _ = []
                    rw [un']
                    rfl
                  · rfl
            · rintro σ' H8 ⟨ex8, l2, o11, rfl⟩
              refine ⟨ex7.trans ex8, fun j hj => ?_, _, _, rfl⟩
              by_cases hji : j < y
              · exact l1 j hji
              · have : j = y := by omega
                subst this
                exact flat_nil l2
          · rintro σ' H7 ⟨ex7, l1, o10, o11, rfl⟩
            refine s_ret ev_c fun H8 e8 => k _ H8 (e06.trans (ex7.trans e8)) ?_
            show Dat H8 (headD (lrnC Z t M side own coin)) .non
            have : lrnC Z t M side own coin = [] := by
              unfold lrnC
              rw [hnn]
              exact flat_nil l1
            rw [this]
            rfl
abbrev K_learned (P : Program) (w : World) (K : PySem.W.Frag) (mg : Str → Option Value) (base : Heap) (C : Addr) : Prop := Fm P w K mg base C "learned" ["self"] 4 (sp_h_learned P w C)
theorem sc_Held_learned : FnScope ["self", "side", "own", "coin", "found"] ["self"] (defScope s_Held_learned) := ⟨rfl, rfl, rfl, by decide +kernel, rfl, by decide +kernel, by decide +kernel⟩
theorem ok_Held_learned {f : Addr} {fd : FuncData} (F : FnP K "learned" "Held.learned" s_Held_learned f fd) (T : Txt mg) (S : TxtH K C) (c_learned_with : K_learned_with P w K mg base C) : FnOk P w K mg base CX0 4 f fd ["self"] (sp_h_learned P w C) := by
  refine FunD.ok F sc_Held_learned (fun vs H Q E h => ?_) (fun cdv A outer s H vs Q E hr h => ?_)
  · obtain ⟨p, a, rfl, _⟩ := h
    rfl
  · obtain ⟨p, ⟨Z, t, M⟩, rfl, hAt, ok, k⟩ := h
    obtain ⟨zok, wf, dep, sh⟩ := id ok
    simp only at zok wf dep sh
    obtain ⟨dx, f1, f2, f3, d, L, hp, hf1, hf2, hf3, hn, hL⟩ := id hAt
    simp only at hf1 hf2 hf3 hn hL
    have hf2' : Dat H (.tup [.int Z.X, .int Z.Y]) f2 := hf2
    have hf3' : Dat H (.tup [.int Z.c0, .int Z.c1]) f3 := hf3
    refine ⟨_, PSs.nox (pss_cons (ps_for PassesOwn.never (by rfl) (k_pT (K := K) (pe_tup (pa_cons pe_int (pa_cons pe_int pa_nil)))) (pgv 1 sc_Held_learned.nd)
    (pss_one (ps_for PassesOwn.never (by rfl) (pi_range1 (by rfl) T.range (pa_cons (pe_ix (k_ixT (K := K)) (k_fld (K := K) (pv 0)) (pv 1) (fun _ _ => rfl)) pa_nil)) (pgv 2 sc_Held_learned.nd)
    (pss_one (ps_for PassesOwn.never (by rfl) (pi_range1 (by rfl) T.range (pa_cons (pe_ix (k_ixT (K := K)) (k_fld (K := K) (pv 0)) (pv 1) (fun _ _ => rfl)) pa_nil)) (pgv 3 sc_Held_learned.nd)
    (pss_cons (psv 4 sc_Held_learned.nd (pe_methF c_learned_with hr (by first | decide | omega) (pv 0) (pa_cons (pv 1) (pa_cons (pv 2) (pa_cons (pv 3) pa_nil)))))
    (pss_one (ps_if (pt_cmpR op_notN (pv 4) pe_non (nomark _))
    (pss_one (ps_ret (pv 4)))
    pss_nil))))))))
    (pss_one (ps_ret pe_non))), ?_⟩
    refine q_forT (ds := [.int 0, .int 1]) (ed_tup (eda_cons ed_ci (eda_cons ed_ci eda_nil)) (by simp)) rfl (fun H1 i σ' H' => Ex H H1 ∧ Ex H1 H' ∧ (∀ j, j < i → lrnS Z t M j = []) ∧ ∃ o1 o2 o3 o4 : Option V, σ' = [some (.ref p), o1, o2, o3, o4]) (fun H1 e1 => ⟨e1, Ex.refl _, (fun j hj => by omega), none, none, none, none, rfl⟩) (fun H1 i σ' H' e ⟨_, e9, _⟩ => TE.ex e9) ?_ ?_
    · rintro H1 side d' v σ' H2 e1 hi ⟨_, e2, lS, o1, o2, o3, o4, rfl⟩ hdv
      have hv : v = V.int side ∧ side < 2 := by
        rcases (by have := (List.getElem?_eq_some_iff.mp hi).1; simp at this; omega : side = 0 ∨ side = 1) with e | e
        · subst e; simp at hi; subst hi; exact ⟨hdv, by decide⟩
        · subst e; simp at hi; subst hi; exact ⟨hdv, by decide⟩
      obtain ⟨rfl, s2⟩ := hv
      have e12 := e1.trans e2
      have so := sz_le4 zok side
      have sc := cn_le3 zok side
      refine s_forR (n := Z.sz side) (ed_ixT (K := K) (j := side) (ed_ev (ev_fld (ev_var rfl) (e12 _ _ hp) S.cl S.nI (hdF_inputs _ _ _ _ _)) (hf2'.ex e12)) (ed_var (d := .int side) rfl rfl) rfl (sz_pair s2)) (by omega) (fun i σ' H' => Ex H2 H' ∧ (∀ j, j < i → lrnO Z t M side j = []) ∧ ∃ o2 o3 o4 : Option V, σ' = [some (.ref p), some (.int side), o2, o3, o4]) (fun H3 e3 => ⟨e3, (fun j hj => by omega), _, _, _, rfl⟩) ?_ ?_
      · rintro own σ' H3 ho ⟨e3, lO, o2, o3, o4, rfl⟩
        have e13 := e12.trans e3
        refine s_forR (n := Z.cn side) (ed_ixT (K := K) (j := side) (ed_ev (ev_fld (ev_var rfl) (e13 _ _ hp) S.cl S.nC (hdF_coins _ _ _ _ _)) (hf3'.ex e13)) (ed_var (d := .int side) rfl rfl) rfl (c_pair s2)) (by omega) (fun i σ' H' => Ex H3 H' ∧ (∀ j, j < i → lrnC Z t M side own j = []) ∧ ∃ o3 o4 : Option V, σ' = [some (.ref p), some (.int side), some (.int own), o3, o4]) (fun H4 e4 => ⟨e4, (fun j hj => by omega), _, _, rfl⟩) ?_ ?_
        · rintro coin σ' H4 hc ⟨e4, lC, o3, o4, rfl⟩
          have e14 := e13.trans e4
          refine q_asgR (R := fun H v => Dat H (headD (lrnC Z t M side own coin)) v) (er_meth (ev_var rfl) (e14 _ _ hp) (hdF_no _ _ _ _ _ (by decide +kernel) (by decide +kernel) (by decide +kernel) (by decide +kernel) (by decide +kernel)) (eda_cons (ed_var (d := .int side) rfl rfl) (eda_cons (ed_var (d := .int own) rfl rfl) (eda_cons (ed_var (d := .int coin) rfl rfl) eda_nil))) fun vs H5 e5 hvs Q' q' => ?_) fun v5 H5 e5 hv5 => ?_
          · obtain ⟨u1, u2, u3, rfl, g1, g2, g3⟩ := datL3 hvs
            cases (show u1 = V.int _ from g1)
            cases (show u2 = V.int _ from g2)
            cases (show u3 = V.int _ from g3)
            exact ⟨p, ⟨Z, t, M⟩, side, own, coin, rfl, hAt.ex (e14.trans e5), ok, s2, ho, hc, fun v H6 e6 hv => q' v H6 e6 hv⟩
          · have e15 := e14.trans e5
            cases hL : lrnC Z t M side own coin with
            | nil =>
              rw [hL] at hv5
              cases (show v5 = V.non from hv5)
              refine s_when (b := !decide (V.non = V.non)) (et_b (ed_notN (ev_var rfl))) (fun z => by simp at z) (fun _ H6 e6 => ⟨e4.trans (e5.trans e6), fun j hj => ?_, _, _, rfl⟩)
              by_cases hji : j < coin
              · exact lC j hji
              · have : j = coin := by omega
                subst this
                exact hL
            | cons d0 L0 =>
              obtain ⟨ds, eds⟩ := lrnC_tup d0 (by rw [hL]; exact List.mem_cons_self)
              rw [hL] at hv5
              have hv5' : Dat H5 d0 v5 := hv5
              have nn : v5 ≠ .non := fun z => by
                rw [eds, z] at hv5'
                obtain ⟨a, vs, ev, _⟩ := hv5'
                cases ev
              refine s_when (b := !decide (v5 = V.non)) (et_b (ed_notN (ev_var rfl))) (fun _ H6 e6 => ?_) (fun z => absurd z (by simp [nn]))
              refine s_ret (ev_var rfl) fun H7 e7 => k v5 H7 (e15.trans (e6.trans e7)) ?_
              have hd : (lrnA Z t M).head? = some d0 := by
                unfold lrnA
                refine flat_head (i := side) lS ?_ s2
                refine flat_head (i := own) lO ?_ ho
                refine flat_head (i := coin) lC ?_ hc
                rw [hL]
                rfl
              show Dat H7 (match (lrnA Z t M).head? with | none => .non | some d => d) v5
              rw [hd]
              exact (hv5'.ex e6).ex e7
        · rintro σ' H4 ⟨e4, lC, o3, o4, rfl⟩
          refine ⟨e3.trans e4, fun j hj => ?_, _, _, _, rfl⟩
          by_cases hji : j < own
          · exact lO j hji
          · have : j = own := by omega
            subst this
            exact flat_nil lC
      · rintro σ' H3 ⟨e3, lO, o2, o3, o4, rfl⟩
        refine ⟨e1, e2.trans e3, fun j hj => ?_, _, _, _, _, rfl⟩
        by_cases hji : j < side
        · exact lS j hji
        · have : j = side := by omega
          subst this
          exact flat_nil lO
    · rintro H1 σ' H2 e1 ⟨_, e2, lS, o1, o2, o3, o4, rfl⟩
      refine s_ret ev_c fun H3 e3 => k .non H3 (e1.trans (e2.trans e3)) ?_
      have : lrnA Z t M = [] := flat_nil lS
      show Dat H3 (match (lrnA Z t M).head? with | none => .non | some d => d) .non
      rw [this]
      rfl
theorem sc_flaw_of : FnScope ["talk", "table", "held"] ["talk", "table"] (defScope s_flaw_of) := ⟨rfl, rfl, rfl, by decide +kernel, rfl, by decide +kernel, by decide +kernel⟩
theorem ok_flaw_of {f : Addr} {fd : FuncData} (F : FnP K "flaw_of" "flaw_of" s_flaw_of f fd) (T : Txt mg) (S : TxtH K C) (c_check_talk : K_check_talk P w K mg base) (c_Held : K_Held P w K mg base C) (c_learned : K_learned P w K mg base C) : FnOk P w K mg base CX0 9 f fd ["talk", "table"] (sp_flaw) := by
  refine FunD.ok F sc_flaw_of (fun vs H Q E h => ?_) (fun cdv A outer s H vs Q E hr h => ?_)
  · obtain ⟨a, hd, _⟩ := h
    exact hd.length
  · obtain ⟨a, hd, ok, k⟩ := h
    obtain ⟨v1, v2, rfl, h1, h2⟩ := datL2 hd
    refine ⟨_, PSs.nox (pss_cons (ps_expr (pe_callF c_check_talk hr (by first | decide | omega) (pa_cons (pv 0) (pa_cons (pv 1) pa_nil))))
    (pss_cons (psv 2 sc_flaw_of.nd (pe_makeF c_Held hr (by first | decide | omega) (pa_cons (pv 0) (pa_cons (pv 1) pa_nil))))
    (pss_one (ps_ret (pe_ifExp (pt_cmpR op_isN (k_fld (K := K) (pv 2)) pe_non (nomark _)) (pe_methF0 c_learned hr (by first | decide | omega) (pv 2)) (k_fld (K := K) (pv 2))))))), ?_⟩
    refine q_drop (v := .non) (ev_n (ed_callP a (eda_cons (ed_var rfl h1) (eda_cons (ed_var rfl h2) eda_nil)) ok.ok)) fun H1 e1 => ?_
    refine q_make (eda_cons (ed_var rfl (h1.ex e1)) (eda_cons (ed_var rfl (h2.ex e1)) eda_nil)) fun vs H2 x dx e2 hvs nx ndx nex => ?_
    obtain ⟨u1, u2, rfl, g1, g2⟩ := datL2 hvs
    have s0 : Ex H2 (upd (upd H2 dx (.own x)) x (.ins C dx [])) := fun b o e => by
      rw [upd_ne (ne_of_none e nx), upd_ne (ne_of_none e ndx)]
      exact e
    refine ⟨x, dx, u1, u2, a, rfl, upd_same, g1.ex s0, g2.ex s0, ok, fun H3 e3 hAt => ⟨rfl, ?_⟩⟩
    have e23 : Ex H2 H3 := e3.ex s0 nx
    have e13 := (e1.trans e2).trans e23
    obtain ⟨dx', f1, f2, f3, d, L, hp, _⟩ := id hAt
    refine s_retR (R := fun H v => Dat H (flawD a) v) ?_ fun v H4 e4 hv => k v H4 (e13.trans e4) hv
    intro H4 e4 Q' q'
    have key : EvT (tTest (tOp (fun x y H Q => y = V.non ∧ Q (.bl (decide (x = .non))) H) (tFld K (tVar 2) "wrong") (tC .non))) [some v1, some v2, some (.ref x)] H4 true := et_is (et_b (ed_isN (ev_fld (ev_var rfl) (e4 _ _ hp) S.cl S.nW (hdF_wrong _ _ _ _ _)))) (by simp)
    refine key H4 (Ex.refl _) _ fun H5 e5 => ?_
    rw [if_pos rfl]
    have e45 := e4.trans e5
    exact ⟨_, rfl, x, dx', _, rfl, e45 _ _ hp, hdF_no _ _ _ _ _ (by decide +kernel) (by decide +kernel) (by decide +kernel) (by decide +kernel) (by decide +kernel), x, a, rfl, hAt.ex e45, ok.ok, fun v H6 e6 hv => q' v H6 (e5.trans e6) hv⟩
end
end JH
set_option Elab.async false
set_option maxRecDepth 100000
set_option maxHeartbeats 0
namespace JH
open PySem PySem.Spec PyProof.Rows L2
abbrev R : PySem.W.OpenRow := PySem.W.OpenLaw.row PySem.Challenge.rw_jointhands_k04_the_first_that_is_learned
abbrev hk : PySem.W.Hook := He.hookD 5 fa fn
def ob (s : PySem.W.SharedT) : He.AlD := He.obsDG 5 fa fn (HandSHeadRun.getT s)
theorem ob_eq (s : PySem.W.SharedT) : ob s = hk.obs s.abs := He.obsDG_eq (HandSHeadRun.getT_eq s)
theorem run (w : World) : HandSHeadRun.RunEq R (PySem.W.view R.prog [48]) hk ob 12000 names w := by
  intro os
  kernel_rfl
end JH
set_option Elab.async false
set_option maxRecDepth 100000
set_option maxHeartbeats 0
/-! the facts of all defs by their names, the end -/
namespace JH
open PySem PySem.Spec PyProof.Rows L2
theorem sc_Shape_is_end_of_people : FnScope ["self", "tree", "one"] ["self", "tree"] (defScope s_Shape_is_end_of_people) := ⟨rfl, rfl, rfl, by decide +kernel, rfl, by decide +kernel, by decide +kernel⟩
theorem ok_never {P : Program} {w : World} {K : PySem.W.Frag} {mg : Str → Option Value} {base : Heap} {f : Addr} {fd : FuncData} (F : FnP K "is_end_of_people" "Shape.is_end_of_people" s_Shape_is_end_of_people f fd) : FnOk P w K mg base CX0 1 f fd ["self", "tree"] (fun _ _ _ _ => False) :=
  FunD.ok F sc_Shape_is_end_of_people (fun vs H Q E h => h.elim) (fun cdv A outer s H vs Q E hr h => h.elim)
theorem facts {P : Program} {w : World} {K : PySem.W.Frag} {h : Heap} {mg : Str → Option Value} {f : Addr} (X : K.In h) (G : h.Ns mainGlobals mg) (hfa : mg ("law" : Str) = some (.ref f)) (c : He.SaysD fa fn K) :
    ∃ fd : FuncData, (∀ (s : Shared) (v : Value), BindsTo s fd ⟨[v], []⟩ [("_law_script", v)]) ∧ ∀ base : Heap, K.In base → base.Ns mainGlobals mg → FnOk P w K mg base CX0 15 f fd ["_law_script"] (spLaw K) := by
  obtain ⟨fd0, F_is_integer⟩ := c.def_ 0 (d := d_is_integer) rfl
  obtain ⟨fd1, F_is_listed⟩ := c.def_ 1 (d := d_is_listed) rfl
  obtain ⟨fd2, F_is_between⟩ := c.def_ 2 (d := d_is_between) rfl
  obtain ⟨fd3, F_check_table⟩ := c.def_ 3 (d := d_check_table) rfl
  obtain ⟨fd4, F_are_told⟩ := c.def_ 4 (d := d_are_told) rfl
  obtain ⟨fd5, F_are_bits⟩ := c.def_ 5 (d := d_are_bits) rfl
  obtain ⟨fd6, F_Shape_init⟩ := c.def_ 6 (d := d_Shape_init) rfl
  obtain ⟨fd7, F_Shape_is_say⟩ := c.def_ 7 (d := d_Shape_is_say) rfl
  obtain ⟨fd8, F_Shape_is_end⟩ := c.def_ 8 (d := d_Shape_is_end) rfl
  obtain ⟨fd9, F_Shape_is_end_of_people⟩ := c.def_ 9 (d := d_Shape_is_end_of_people) rfl
  obtain ⟨fd10, F_check_tree⟩ := c.def_ 10 (d := d_check_tree) rfl
  obtain ⟨fd11, F_check_talk⟩ := c.def_ 11 (d := d_check_talk) rfl
  obtain ⟨fd12, F_hold_talk⟩ := c.def_ 12 (d := d_hold_talk) rfl
  obtain ⟨fd13, F_pair_of⟩ := c.def_ 13 (d := d_pair_of) rfl
  obtain ⟨fd14, F_Held_init⟩ := c.def_ 14 (d := d_Held_init) rfl
  obtain ⟨fd15, F_Held_hold_all⟩ := c.def_ 15 (d := d_Held_hold_all) rfl
  obtain ⟨fd16, F_Held_counts⟩ := c.def_ 16 (d := d_Held_counts) rfl
  obtain ⟨fd17, F_Held_answer⟩ := c.def_ 17 (d := d_Held_answer) rfl
  obtain ⟨fd18, F_Held_learned_with⟩ := c.def_ 18 (d := d_Held_learned_with) rfl
  obtain ⟨fd19, F_Held_learned⟩ := c.def_ 19 (d := d_Held_learned) rfl
  obtain ⟨fd20, F_first_unlike⟩ := c.def_ 20 (d := d_first_unlike) rfl
  obtain ⟨fd21, F_flaw_of⟩ := c.def_ 21 (d := d_flaw_of) rfl
  obtain ⟨fd22, F_law_draws⟩ := c.def_ 22 (d := d_law_draws) rfl
  obtain ⟨fd23, F_law_take⟩ := c.def_ 23 (d := d_law_take) rfl
  obtain ⟨fd24, F_law_table⟩ := c.def_ 24 (d := d_law_table) rfl
  obtain ⟨fd25, F_law_bits⟩ := c.def_ 25 (d := d_law_bits) rfl
  obtain ⟨fd26, F_law_held⟩ := c.def_ 26 (d := d_law_held) rfl
  obtain ⟨fd27, F_law_rising⟩ := c.def_ 27 (d := d_law_rising) rfl
  obtain ⟨fd28, F_law_same⟩ := c.def_ 28 (d := d_law_same) rfl
  obtain ⟨fd29, F_law_constant⟩ := c.def_ 29 (d := d_law_constant) rfl
  obtain ⟨fd30, F_law_bundle⟩ := c.def_ 30 (d := d_law_bundle) rfl
  obtain ⟨fd31, F_law_answer⟩ := c.def_ 31 (d := d_law_answer) rfl
  obtain ⟨fd32, F_law_shown⟩ := c.def_ 32 (d := d_law_shown) rfl
  obtain ⟨fd33, F_law_inputs⟩ := c.def_ 33 (d := d_law_inputs) rfl
  obtain ⟨fd34, F_law_right_tree⟩ := c.def_ 34 (d := d_law_right_tree) rfl
  obtain ⟨fd35, F_law_right_talk⟩ := c.def_ 35 (d := d_law_right_talk) rfl
  obtain ⟨fd36, F_law_wrongs⟩ := c.def_ 36 (d := d_law_wrongs) rfl
  obtain ⟨fd37, F_law_counts⟩ := c.def_ 37 (d := d_law_counts) rfl
  obtain ⟨fd38, F_law_learned⟩ := c.def_ 38 (d := d_law_learned) rfl
  obtain ⟨fd39, F_law_learns⟩ := c.def_ 39 (d := d_law_learns) rfl
  obtain ⟨fd40, F_law_told_answer⟩ := c.def_ 40 (d := d_law_told_answer) rfl
  obtain ⟨fd41, F_law_easy_table⟩ := c.def_ 41 (d := d_law_easy_table) rfl
  obtain ⟨fd42, F_law_is_right⟩ := c.def_ 42 (d := d_law_is_right) rfl
  obtain ⟨fd43, F_law⟩ := c.def_ 43 (d := d_law) rfl
  have e := hfa.symm.trans (He.glo_ok X G (c.fact 33 (f := .glo "law") rfl))
  cases e
  have b := FunD.bindsA (ps := ["_law_script"]) F_law fun _ _ _ _ _ _ us hl => match us, hl with | [_], _ => rfl
  refine ⟨_, fun s v => b s [v] rfl, fun base _ _ => ?_⟩
  have T : Txt mg := ⟨He.free_ok X G (c.fact 36 (f := .free "isinstance") rfl), He.free_ok X G (c.fact 37 (f := .free "int") rfl), He.free_ok X G (c.fact 38 (f := .free "bool") rfl), He.free_ok X G (c.fact 39 (f := .free "str") rfl), He.free_ok X G (c.fact 40 (f := .free "tuple") rfl), He.free_ok X G (c.fact 41 (f := .free "list") rfl), He.free_ok X G (c.fact 42 (f := .free "all") rfl), He.free_ok X G (c.fact 43 (f := .free "len") rfl), He.free_ok X G (c.fact 44 (f := .free "range") rfl), He.free_ok X G (c.fact 45 (f := .free "enumerate") rfl), He.free_ok X G (c.fact 46 (f := .free "sorted") rfl), He.free_ok X G (c.fact 47 (f := .free "max") rfl), He.free_ok X G (c.fact 48 (f := .free "abs") rfl), He.int_ok X G (c.fact 49 (f := .int "MOST_LINES" 100) rfl), He.int_ok X G (c.fact 50 (f := .int "MOST_COINS" 256) rfl), He.int_ok X G (c.fact 51 (f := .int "MOST_DEPTH" 250) rfl), He.int_ok X G (c.fact 52 (f := .int "MOST_TREES" 40000) rfl), He.int_ok X G (c.fact 53 (f := .int "MOST_PEOPLE_TREES" 200) rfl)⟩
  have S : TxtS K (He.ga K "Shape") := ⟨He.cls_ok (c.fact 54 (f := .cls "Shape") rfl), He.noat_ok (c.fact 56 (f := .noat "Shape" "inputs") rfl), He.noat_ok (c.fact 57 (f := .noat "Shape" "coins") rfl)⟩
  have SH : TxtH K (He.ga K "Held") := ⟨He.cls_ok (c.fact 61 (f := .cls "Held") rfl), He.noat_ok (c.fact 63 (f := .noat "Held" "table") rfl), He.noat_ok (c.fact 64 (f := .noat "Held" "inputs") rfl), He.noat_ok (c.fact 65 (f := .noat "Held" "coins") rfl), He.noat_ok (c.fact 66 (f := .noat "Held" "bits") rfl), He.noat_ok (c.fact 67 (f := .noat "Held" "wrong") rfl)⟩
  have c_is_integer : K_is_integer P w K mg base := ⟨_, _, ok_is_integer F_is_integer T, (He.glo_ok X G (c.fact 0 (f := .glo "is_integer") rfl)), F_is_integer.kp, (F_is_integer.bindsN fun _ _ _ _ _ _ us hl => match us, hl with | [_], _ => rfl)⟩
  have c_is_listed : K_is_listed P w K mg base := ⟨_, _, ok_is_listed F_is_listed T c_is_integer, (He.glo_ok X G (c.fact 1 (f := .glo "is_listed") rfl)), F_is_listed.kp, (F_is_listed.bindsN fun _ _ _ _ _ _ us hl => match us, hl with | [_], _ => rfl)⟩
  have c_is_between : K_is_between P w K mg base := ⟨_, _, ok_is_between F_is_between T c_is_integer, (He.glo_ok X G (c.fact 2 (f := .glo "is_between") rfl)), F_is_between.kp, (F_is_between.bindsN fun _ _ _ _ _ _ us hl => match us, hl with | [_, _, _], _ => rfl)⟩
  have c_are_told : K_are_told P w K mg base := ⟨_, _, ok_are_told F_are_told T c_is_listed, (He.glo_ok X G (c.fact 4 (f := .glo "are_told") rfl)), F_are_told.kp, (F_are_told.bindsN fun _ _ _ _ _ _ us hl => match us, hl with | [_, _, _], _ => rfl)⟩
  have c_are_bits : K_are_bits P w K mg base := ⟨_, _, ok_are_bits F_are_bits T c_are_told, (He.glo_ok X G (c.fact 5 (f := .glo "are_bits") rfl)), F_are_bits.kp, (F_are_bits.bindsN fun _ _ _ _ _ _ us hl => match us, hl with | [_, _, _], _ => rfl)⟩
  have c_check_table : K_check_table P w K mg base := ⟨_, _, ok_check_table F_check_table T c_is_listed, (He.glo_ok X G (c.fact 3 (f := .glo "check_table") rfl)), F_check_table.kp, (F_check_table.bindsN fun _ _ _ _ _ _ us hl => match us, hl with | [_], _ => rfl)⟩
  have c_Shape : K_Shape P w K mg base (He.ga K "Shape") := ⟨_, _, ok_Shape_init F_Shape_init T S, He.mkr_ok (c.fact 55 (f := .mkr "Shape") rfl), (He.glo_ok X G (c.fact 34 (f := .glo "Shape") rfl)), (F_Shape_init.bindsN fun _ _ _ _ _ _ us hl => match us, hl with | [_, _, _], _ => rfl)⟩
  have c_Shape_is_say : K_is_say P w K mg base (He.ga K "Shape") := ⟨He.cls_ok (c.fact 54 (f := .cls "Shape") rfl), _, _, ok_Shape_is_say F_Shape_is_say T S c_is_integer c_are_bits, He.meth_ok (c.fact 58 (f := .meth "Shape" "is_say") rfl), (F_Shape_is_say.bindsN fun _ _ _ _ _ _ us hl => match us, hl with | [_, _], _ => rfl)⟩
  have c_Shape_is_end : K_is_end P w K mg base (He.ga K "Shape") := ⟨He.cls_ok (c.fact 54 (f := .cls "Shape") rfl), _, _, ok_Shape_is_end F_Shape_is_end T S c_are_told, He.meth_ok (c.fact 59 (f := .meth "Shape" "is_end") rfl), (F_Shape_is_end.bindsN fun _ _ _ _ _ _ us hl => match us, hl with | [_, _], _ => rfl)⟩
  have c_Shape_is_end_of_people : K_is_end_of_people P w K mg base (He.ga K "Shape") := ⟨He.cls_ok (c.fact 54 (f := .cls "Shape") rfl), _, _, ok_never F_Shape_is_end_of_people, He.meth_ok (c.fact 60 (f := .meth "Shape" "is_end_of_people") rfl), (F_Shape_is_end_of_people.bindsN fun _ _ _ _ _ _ us hl => match us, hl with | [_, _], _ => rfl)⟩
  have c_check_tree : K_check_tree P w K mg base (He.ga K "Shape") := ⟨_, _, ok_check_tree F_check_tree T c_Shape_is_say c_Shape_is_end c_Shape_is_end_of_people, (He.glo_ok X G (c.fact 6 (f := .glo "check_tree") rfl)), F_check_tree.kp, (F_check_tree.bindsN fun _ _ _ _ _ _ us hl => match us, hl with | [_, _, _], _ => rfl)⟩
  have c_check_talk : K_check_talk P w K mg base := ⟨_, _, ok_check_talk F_check_talk T c_check_table c_is_between c_Shape c_check_tree, (He.glo_ok X G (c.fact 7 (f := .glo "check_talk") rfl)), F_check_talk.kp, (F_check_talk.bindsN fun _ _ _ _ _ _ us hl => match us, hl with | [_, _], _ => rfl)⟩
  have c_hold_talk : K_hold_talk P w K mg base := ⟨_, _, ok_hold_talk F_hold_talk T, (He.glo_ok X G (c.fact 8 (f := .glo "hold_talk") rfl)), F_hold_talk.kp, (F_hold_talk.bindsN fun _ _ _ _ _ _ us hl => match us, hl with | [_, _, _], _ => rfl)⟩
  have c_pair_of : K_pair_of P w K mg base := ⟨_, _, ok_pair_of F_pair_of T, (He.glo_ok X G (c.fact 9 (f := .glo "pair_of") rfl)), F_pair_of.kp, (F_pair_of.bindsN fun _ _ _ _ _ _ us hl => match us, hl with | [_, _, _], _ => rfl)⟩
  have c_Held_hold_all : K_hold_all P w K mg base (He.ga K "Held") := ⟨He.cls_ok (c.fact 61 (f := .cls "Held") rfl), _, _, ok_Held_hold_all F_Held_hold_all T SH c_hold_talk, He.meth_ok (c.fact 68 (f := .meth "Held" "hold_all") rfl), (F_Held_hold_all.bindsN fun _ _ _ _ _ _ us hl => match us, hl with | [_, _, _], _ => rfl)⟩
  have c_Held_counts : K_h_counts P w K mg base (He.ga K "Held") := ⟨He.cls_ok (c.fact 61 (f := .cls "Held") rfl), _, _, ok_Held_counts F_Held_counts T SH c_pair_of, He.meth_ok (c.fact 69 (f := .meth "Held" "counts") rfl), (F_Held_counts.bindsN fun _ _ _ _ _ _ us hl => match us, hl with | [_, _, _, _, _], _ => rfl)⟩
  have c_Held_answer : K_h_answer P w K mg base (He.ga K "Held") := ⟨He.cls_ok (c.fact 61 (f := .cls "Held") rfl), _, _, ok_Held_answer F_Held_answer T SH c_pair_of, He.meth_ok (c.fact 70 (f := .meth "Held" "answer") rfl), (F_Held_answer.bindsN fun _ _ _ _ _ _ us hl => match us, hl with | [_, _, _, _], _ => rfl)⟩
  have c_first_unlike : K_first_unlike P w K mg base := ⟨_, _, ok_first_unlike F_first_unlike T, (He.glo_ok X G (c.fact 10 (f := .glo "first_unlike") rfl)), F_first_unlike.kp, (F_first_unlike.bindsN fun _ _ _ _ _ _ us hl => match us, hl with | [_, _], _ => rfl)⟩
  have c_Held_learned_with : K_learned_with P w K mg base (He.ga K "Held") := ⟨He.cls_ok (c.fact 61 (f := .cls "Held") rfl), _, _, ok_Held_learned_with F_Held_learned_with T SH c_Held_counts c_Held_answer c_first_unlike, He.meth_ok (c.fact 71 (f := .meth "Held" "learned_with") rfl), (F_Held_learned_with.bindsN fun _ _ _ _ _ _ us hl => match us, hl with | [_, _, _, _], _ => rfl)⟩
  have c_Held_learned : K_learned P w K mg base (He.ga K "Held") := ⟨He.cls_ok (c.fact 61 (f := .cls "Held") rfl), _, _, ok_Held_learned F_Held_learned T SH c_Held_learned_with, He.meth_ok (c.fact 72 (f := .meth "Held" "learned") rfl), (F_Held_learned.bindsN fun _ _ _ _ _ _ us hl => match us, hl with | [_], _ => rfl)⟩
  have c_Held : K_Held P w K mg base (He.ga K "Held") := ⟨_, _, ok_Held_init F_Held_init T SH c_Held_hold_all, He.mkr_ok (c.fact 62 (f := .mkr "Held") rfl), (He.glo_ok X G (c.fact 35 (f := .glo "Held") rfl)), (F_Held_init.bindsN fun _ _ _ _ _ _ us hl => match us, hl with | [_, _, _], _ => rfl)⟩
  have c_flaw_of : K_flaw_of P w K mg base := ⟨_, _, ok_flaw_of F_flaw_of T SH c_check_talk c_Held c_Held_learned, (He.glo_ok X G (c.fact 11 (f := .glo "flaw_of") rfl)), F_flaw_of.kp, (F_flaw_of.bindsN fun _ _ _ _ _ _ us hl => match us, hl with | [_, _], _ => rfl)⟩
  have c_law_draws : K_law_draws P w K mg base := ⟨_, _, ok_law_draws F_law_draws T, (He.glo_ok X G (c.fact 12 (f := .glo "_law_draws") rfl)), F_law_draws.kp, (F_law_draws.bindsN fun _ _ _ _ _ _ us hl => match us, hl with | [_, _], _ => rfl)⟩
  have c_law_take : K_law_take P w K mg base := ⟨_, _, ok_law_take F_law_take T, (He.glo_ok X G (c.fact 13 (f := .glo "_law_take") rfl)), F_law_take.kp, (F_law_take.bindsN fun _ _ _ _ _ _ us hl => match us, hl with | [_, _], _ => rfl)⟩
  have c_law_table : K_law_table P w K mg base := ⟨_, _, ok_law_table F_law_table T c_law_take, (He.glo_ok X G (c.fact 14 (f := .glo "_law_table") rfl)), F_law_table.kp, (F_law_table.bindsN fun _ _ _ _ _ _ us hl => match us, hl with | [_, _, _, _], _ => rfl)⟩
  have c_law_bits : K_law_bits P w K mg base := ⟨_, _, ok_law_bits F_law_bits T c_law_take, (He.glo_ok X G (c.fact 15 (f := .glo "_law_bits") rfl)), F_law_bits.kp, (F_law_bits.bindsN fun _ _ _ _ _ _ us hl => match us, hl with | [_, _, _, _], _ => rfl)⟩
  have c_law_easy_table : K_law_easy_table P w K mg base := ⟨_, _, ok_law_easy_table F_law_easy_table T c_law_take, (He.glo_ok X G (c.fact 31 (f := .glo "_law_easy_table") rfl)), F_law_easy_table.kp, (F_law_easy_table.bindsN fun _ _ _ _ _ _ us hl => match us, hl with | [_, _], _ => rfl)⟩
  have c_law_held : K_law_held P w K mg base := ⟨_, _, ok_law_held F_law_held T, (He.glo_ok X G (c.fact 16 (f := .glo "_law_held") rfl)), F_law_held.kp, (F_law_held.bindsN fun _ _ _ _ _ _ us hl => match us, hl with | [_, _, _], _ => rfl)⟩
  have c_law_rising : K_law_rising P w K mg base := ⟨_, _, ok_law_rising F_law_rising T, (He.glo_ok X G (c.fact 17 (f := .glo "_law_rising") rfl)), F_law_rising.kp, (F_law_rising.bindsN fun _ _ _ _ _ _ us hl => match us, hl with | [_], _ => rfl)⟩
  have c_law_same : K_law_same P w K mg base 3 := by
    have s0 : K_law_same P w K mg base 0 := ⟨_, _, ok_law_same0 F_law_same, (He.glo_ok X G (c.fact 18 (f := .glo "_law_same") rfl)), F_law_same.kp, (F_law_same.bindsN fun _ _ _ _ _ _ us hl => match us, hl with | [_, _], _ => rfl)⟩
    have st : ∀ n, K_law_same P w K mg base n → K_law_same P w K mg base (n + 1) := fun n k => ⟨_, _, ok_law_same F_law_same T k, (He.glo_ok X G (c.fact 18 (f := .glo "_law_same") rfl)), F_law_same.kp, (F_law_same.bindsN fun _ _ _ _ _ _ us hl => match us, hl with | [_, _], _ => rfl)⟩
    exact st 2 (st 1 (st 0 s0))
  have c_law_constant : K_law_constant P w K mg base := ⟨_, _, ok_law_constant F_law_constant T, (He.glo_ok X G (c.fact 19 (f := .glo "_law_constant") rfl)), F_law_constant.kp, (F_law_constant.bindsN fun _ _ _ _ _ _ us hl => match us, hl with | [_, _, _], _ => rfl)⟩
  have c_law_answer : K_law_answer P w K mg base := ⟨_, _, ok_law_answer F_law_answer T, (He.glo_ok X G (c.fact 21 (f := .glo "_law_answer") rfl)), F_law_answer.kp, (F_law_answer.bindsN fun _ _ _ _ _ _ us hl => match us, hl with | [_, _, _, _], _ => rfl)⟩
  have c_law_bundle : K_law_bundle P w K mg base := ⟨_, _, ok_law_bundle F_law_bundle T c_law_answer, (He.glo_ok X G (c.fact 20 (f := .glo "_law_bundle") rfl)), F_law_bundle.kp, (F_law_bundle.bindsN fun _ _ _ _ _ _ us hl => match us, hl with | [_, _, _, _], _ => rfl)⟩
  have c_law_inputs : K_law_inputs P w K mg base := ⟨_, _, ok_law_inputs F_law_inputs T, (He.glo_ok X G (c.fact 23 (f := .glo "_law_inputs") rfl)), F_law_inputs.kp, (F_law_inputs.bindsN fun _ _ _ _ _ _ us hl => match us, hl with | [_], _ => rfl)⟩
  have c_law_shown : K_law_shown P w K mg base := ⟨_, _, ok_law_shown F_law_shown T c_law_take c_law_inputs c_law_bundle, (He.glo_ok X G (c.fact 22 (f := .glo "_law_shown") rfl)), F_law_shown.kp, (F_law_shown.bindsN fun _ _ _ _ _ _ us hl => match us, hl with | [_, _, _], _ => rfl)⟩
  have c_law_right_tree : K_law_right_tree P w K mg base 9 := by
    have s0 : K_law_right_tree P w K mg base 0 := ⟨_, _, ok_law_right_tree0 F_law_right_tree, (He.glo_ok X G (c.fact 24 (f := .glo "_law_right_tree") rfl)), F_law_right_tree.kp, (F_law_right_tree.bindsN fun _ _ _ _ _ _ us hl => match us, hl with | [_, _, _, _, _], _ => rfl)⟩
    have st : ∀ n, K_law_right_tree P w K mg base n → K_law_right_tree P w K mg base (n + 1) := fun n k => ⟨_, _, ok_law_right_tree F_law_right_tree T c_law_take c_law_bits c_law_constant c_law_shown k, (He.glo_ok X G (c.fact 24 (f := .glo "_law_right_tree") rfl)), F_law_right_tree.kp, (F_law_right_tree.bindsN fun _ _ _ _ _ _ us hl => match us, hl with | [_, _, _, _, _], _ => rfl)⟩
    exact st 8 (st 7 (st 6 (st 5 (st 4 (st 3 (st 2 (st 1 (st 0 s0))))))))
  have c_law_right_talk : K_law_right_talk P w K mg base := ⟨_, _, ok_law_right_talk F_law_right_talk T c_law_take c_law_right_tree, (He.glo_ok X G (c.fact 25 (f := .glo "_law_right_talk") rfl)), F_law_right_talk.kp, (F_law_right_talk.bindsN fun _ _ _ _ _ _ us hl => match us, hl with | [_, _, _], _ => rfl)⟩
  have c_law_wrongs : K_law_wrongs P w K mg base := ⟨_, _, ok_law_wrongs F_law_wrongs T c_law_held, (He.glo_ok X G (c.fact 26 (f := .glo "_law_wrongs") rfl)), F_law_wrongs.kp, (F_law_wrongs.bindsN fun _ _ _ _ _ _ us hl => match us, hl with | [_, _], _ => rfl)⟩
  have c_law_counts : K_law_counts P w K mg base := ⟨_, _, ok_law_counts F_law_counts T c_law_held, (He.glo_ok X G (c.fact 27 (f := .glo "_law_counts") rfl)), F_law_counts.kp, (F_law_counts.bindsN fun _ _ _ _ _ _ us hl => match us, hl with | [_, _, _, _, _], _ => rfl)⟩
  have c_law_learned : K_law_learned P w K mg base := ⟨_, _, ok_law_learned F_law_learned T c_law_rising, (He.glo_ok X G (c.fact 28 (f := .glo "_law_learned") rfl)), F_law_learned.kp, (F_law_learned.bindsN fun _ _ _ _ _ _ us hl => match us, hl with | [_, _, _, _, _, _, _], _ => rfl)⟩
  have c_law_told_answer : K_law_told_answer P w K mg base := ⟨_, _, ok_law_told_answer F_law_told_answer T, (He.glo_ok X G (c.fact 30 (f := .glo "_law_told_answer") rfl)), F_law_told_answer.kp, (F_law_told_answer.bindsN fun _ _ _ _ _ _ us hl => match us, hl with | [_, _, _, _], _ => rfl)⟩
  have c_law_learns : K_law_learns P w K mg base := ⟨_, _, ok_law_learns F_law_learns T c_law_counts c_law_told_answer c_law_learned, (He.glo_ok X G (c.fact 29 (f := .glo "_law_learns") rfl)), F_law_learns.kp, (F_law_learns.bindsN fun _ _ _ _ _ _ us hl => match us, hl with | [_, _], _ => rfl)⟩
  have c_law_is_right : K_law_is_right P w K mg base := ⟨_, _, ok_law_is_right F_law_is_right T c_law_wrongs c_law_learns c_flaw_of c_law_same, (He.glo_ok X G (c.fact 32 (f := .glo "_law_is_right") rfl)), F_law_is_right.kp, (F_law_is_right.bindsN fun _ _ _ _ _ _ us hl => match us, hl with | [_, _], _ => rfl)⟩
  exact ok_law F_law T c_law_draws c_law_take c_law_table c_law_easy_table c_law_right_talk c_law_is_right
end JH
open PySem PySem.W PySem.Calls PyProof.Rows
theorem PySem.Challenge.cw_jointhands_k04_the_first_that_is_learned_holds : PySem.Challenge.rw_jointhands_k04_the_first_that_is_learned.Holds := by
  w_on; o_law
  refine HandSHeadRun.head_any (r := OpenLaw.row PySem.Challenge.rw_jointhands_k04_the_first_that_is_learned) (q := view (OpenLaw.row PySem.Challenge.rw_jointhands_k04_the_first_that_is_learned).prog [48]) (H := JH.hk) (ob := JH.ob) (M := 12000) (loose := JH.names) (d := HandSHeadRun.topDef (OpenLaw.row PySem.Challenge.rw_jointhands_k04_the_first_that_is_learned).prog 48) (kwd := []) JH.ob_eq
    (by kernel_rfl) (fun s => by kernel_rfl) JH.run (by kernel_rfl) (by kernel_rfl) (by kernel_rfl) (by rfl) (by first | assumption | decide +kernel) (by decide +kernel) ⟨rfl, rfl, rfl, rfl, rfl, by decide +kernel⟩ ?hw ?hc
  case hw => w_witness2
  case hc =>
    refine L2.walk_ofE (l := PySem.Challenge.rw_jointhands_k04_the_first_that_is_learned) (n := 63) (k := 15) (x := "_law_script") (CX := L2.CX0) rfl (by decide) (by kernel_rfl) ⟨rfl, by decide, by decide⟩ ?F (fun _ _ _ _ z => z)
    intro w mg fa h Y G hmg0
    obtain ⟨K, KX, c⟩ := Y
    have hmg : mg ("law" : PySem.Str) = some (.ref fa) := by
      have e : (HandSHeadRun.topDef (OpenLaw.row PySem.Challenge.rw_jointhands_k04_the_first_that_is_learned).prog 48).name = ("law" : PySem.Str) := by kernel_rfl
      rw [← e]
      exact hmg0
    obtain ⟨fd, hb, hF⟩ := JH.facts (P := (PySem.Challenge.rw_jointhands_k04_the_first_that_is_learned).prog) (w := w) KX G hmg c
    exact ⟨K, fd, JH.spLaw K, KX, hb, fun H a ns hl _ hS => ⟨a, ns, rfl, hS, hl, fun _ => rfl⟩, hF⟩
