import PyProof.Rows.All
import Wide.All
import OpenK.AllK
import Wide.FinOn
import HandS.Base
import HandS.Call
import KE.KStateDown
import Lean
import HandS.Ends
import HandS.More
import HandS.Words
import HandS.WordsExc
import HandS.Defaults
import HandS.Head0
import HandS.Head1
import HandS.Head2
import HandS.HeadEnd
import HandS.HeadHook1
import HandS.HeadHook2
import HandS.HeadHook3
import HandS.HeadHook4
import HandS.HeadWalk
import HandS.List
import HandS.Comp
import HandS.WordsList
import HandS.Lambda
import HandS.Iter
import HandS.Zip
import HandS.IsInst
import HandS.Deep
import HandS.Conv
import HandS.Text
import HandS.TupAny
import PyProof.P3In
import HandS.DictComp
import HandS.SetBool
import HandS.Strs
import HandS.SetKeys
import KE.KDictCopyH
import KE.KDictKeyed
import KE.SortKeyHeap
import HandS.ExcValue
import HandS.SortKw
import HandS.Keys
import HandS.SetFor
import PyProof.Rows.SetFrom
import HandS.MakeKwOnly
import PySem.Challenge.RW_findquestion_k59_whole_likenesses_carry
set_option Elab.async false
set_option linter.all false
set_option maxRecDepth 100000
section
/-! Q0: the text's rows, its class's methods. -/
namespace Z
open PySem PySem.Spec L2
def top (i : Nat) : Stmt := PySem.Challenge.pw_findquestion_k59_whole_likenesses_carry.main.body.getD i (.Pass ⟨0, 0, 0, 0⟩)
def clsBody : Stmt → List Stmt
  | .ClassDef _ _ _ b .. => b
  | _ => []
/-- a class's method -/
def meth (i j : Nat) : Stmt := (clsBody (top i)).getD j (.Pass ⟨0, 0, 0, 0⟩)
end Z
end

section
set_option maxHeartbeats 0
namespace FQ
open PySem PySem.Spec PyProof.Rows L2
def ini : Stmt := Z.meth 35 0
def dd (i : Nat) (x : Str) : He.DefD := ⟨(x, none), x, x, defArgs (Z.top i), defBody (Z.top i), defScope (Z.top i), [], []⟩
def di : He.DefD := ⟨("Field", some "__init__"), "__init__", "Field.__init__", defArgs ini, defBody ini, defScope ini, [], [("deeds", .glo "DEEDS")]⟩

def fn : List He.DefD := [dd 14 "is_whole", dd 15 "is_word", dd 17 "is_value", dd 18 "is_row", dd 19 "value_key", dd 20 "row_key", dd 21 "row_less", dd 22 "risen", dd 23 "values_risen", dd 24 "are_risen", dd 26 "are_rows", dd 27 "is_table", dd 28 "values_in", dd 29 "is_book", dd 30 "heads", dd 31 "are_books", dd 33 "named_of", dd 34 "deeds_of", dd 39 "is_mark", dd 40 "marks_in", dd 41 "numbers_in", dd 42 "readings_on", dd 43 "read_on", dd 44 "value_read", dd 45 "rows_read", dd 47 "put_by", dd 48 "right_likeness", dd 49 "led_on", dd 50 "led_lines", dd 51 "likeness", dd 53 "fresh_numbers", dd 54 "values_for", dd 55 "frozen", dd 56 "frozen_row", dd 58 "_law_take", dd 59 "_law_word", dd 60 "_law_pool", dd 61 "_law_sorted", dd 62 "_law_tables", dd 63 "_law_books", dd 64 "_law_data", dd 65 "_law_field", dd 66 "_law_mark_key", dd 67 "_law_line_key", dd 68 "_law_numbers", dd 70 "_law_put_right", dd 71 "_law_some_sheet", dd 72 "_law_heads", dd 74 "_law_by", dd 76 "_law_more_sheet", dd 77 "_law_things", dd 78 "law", di]
def fa : List He.Fa := [.glo "is_whole", .glo "is_word", .glo "is_value", .glo "is_row", .glo "value_key", .glo "row_key", .glo "row_less", .glo "risen", .glo "values_risen", .glo "are_risen", .glo "are_rows", .glo "is_table", .glo "values_in", .glo "is_book", .glo "heads", .glo "are_books", .glo "named_of", .glo "deeds_of", .glo "is_mark", .glo "marks_in", .glo "numbers_in", .glo "readings_on", .glo "read_on", .glo "value_read", .glo "rows_read", .glo "put_by", .glo "right_likeness", .glo "led_on", .glo "led_lines", .glo "likeness", .glo "fresh_numbers", .glo "values_for", .glo "frozen", .glo "frozen_row", .glo "_law_take", .glo "_law_word", .glo "_law_pool", .glo "_law_sorted", .glo "_law_tables", .glo "_law_books", .glo "_law_data", .glo "_law_field", .glo "_law_mark_key", .glo "_law_line_key", .glo "_law_numbers", .glo "_law_put_right", .glo "_law_some_sheet", .glo "_law_heads", .glo "_law_by", .glo "_law_more_sheet", .glo "_law_things", .glo "law", .free "len", .free "tuple", .free "list", .free "all", .free "zip", .free "range", .free "enumerate", .free "isinstance", .free "int", .free "str", .free "bool", .free "sorted", .free "set", .free "dict", .free "min", .str "ANY" "any", .str "IS" "is", .str "LETTERS" "abcdefghijklmnopqrstuvwxyz", .int "GREATEST" 1000000000, .int "WIDE" 3, .int "ROWS" 6, .int "TABLES" 3, .int "MANY" 3, .int "VALUES" 18, .int "NAMED" 3, .int "LONGEST" 8, .glo "Field", .glo "DEEDS", .cls "Field", .noat "Field" "books", .noat "Field" "named", .noat "Field" "deeds", .mkr "Field"]
def deeds : List He.Dv := [.str "below", .str "join", .str "less", .str "same", .str "take", .str "union", .str "value", .str "with", .str "without"]
def ex (K : PySem.W.Frag) : Bool := He.tupB K "DEEDS" deeds
def tf : List He.Defn := [("_law_sorted", none)]
def names0 : List PySem.Str := ["FindError", "NoField", "GREATEST", "WIDE", "ROWS", "TABLES", "MANY", "VALUES", "NAMED", "LONGEST", "LETTERS", "DEEDS", "is_whole", "is_word", "is_value", "is_row", "value_key", "row_key", "row_less", "risen", "values_risen", "are_risen", "are_rows", "is_table", "values_in", "is_book", "heads", "are_books", "named_of", "deeds_of"]
def names1 : List PySem.Str := ["Field", "ANY", "IS", "is_mark", "marks_in", "numbers_in", "readings_on", "read_on", "value_read", "rows_read", "put_by", "right_likeness", "led_on", "led_lines", "likeness", "fresh_numbers", "values_for", "frozen", "frozen_row", "_law_take", "_law_word", "_law_pool", "_law_sorted", "_law_tables", "_law_books", "_law_data", "_law_field", "_law_mark_key", "_law_line_key", "_law_numbers"]
def names2 : List PySem.Str := ["_law_swapped", "_law_put_right", "_law_some_sheet", "_law_heads", "_law_is_mark", "_law_by", "_law_is_likeness", "_law_more_sheet", "_law_things"]
def names : List PySem.Str := names0 ++ names1 ++ names2
abbrev R : PySem.W.OpenRow := PySem.W.OpenLaw.row PySem.Challenge.rw_findquestion_k59_whole_likenesses_carry
abbrev hk : PySem.W.Hook := He.hookX 5 fa fn [] tf ex
def ob (s : PySem.W.SharedT) : He.AlX := He.obsX 5 fa fn [] tf ex (HandSHeadRun.getT s)
theorem ob_eq (s : PySem.W.SharedT) : ob s = hk.obs s.abs := He.obsX_eq (HandSHeadRun.getT_eq s)
theorem run (w : World) : HandSHeadRun.RunEq R (PySem.W.view R.prog [78]) hk ob 3000 names w := by
  intro os
  kernel_rfl
end FQ
end

section
/-! Z1: types of values over a frozen part of the heap; readings by types. -/
namespace Z
open PySem PySem.Spec L2
abbrev St := L2.St

/-- what may change in place -/
def Mut (o : Option HO) : Prop := match o with
  | some (.tbl _) => True
  | o => L2.Mut o
abbrev Ex (S T : Hp) : Prop := ∀ a o, S a = some o → T a = some o
theorem Ex.rfl' {S : Hp} : Ex S S := fun _ _ h => h
theorem Ex.comp {S T U : Hp} (h : Ex S T) (k : Ex T U) : Ex S U := fun a o e => k a o (h a o e)

/-- a type of values: what is true of a value over a frozen heap, and stays so -/
structure Ty where
  is : Hp → V → Prop
  mono : ∀ {S T : Hp} {v : V}, Ex S T → is S v → is T v

/-- values of types, one by one -/
inductive Tys (S : Hp) : List Ty → List V → Prop where
  | nil : Tys S [] []
  | cons {t : Ty} {ts : List Ty} {v : V} {vs : List V} : t.is S v → Tys S ts vs → Tys S (t :: ts) (v :: vs)
theorem Tys.mono {S T : Hp} (e : Ex S T) {ts : List Ty} {vs : List V} (h : Tys S ts vs) : Tys T ts vs := by
  induction h with
  | nil => exact .nil
  | cons a _ ih => exact .cons (Ty.mono _ e a) ih
theorem Tys.len {S : Hp} {ts : List Ty} {vs : List V} (h : Tys S ts vs) : ts.length = vs.length := by
  induction h with
  | nil => rfl
  | cons _ _ ih => simp [ih]
theorem Tys.get {S : Hp} {ts : List Ty} {vs : List V} (h : Tys S ts vs) : ∀ {i : Nat} {t : Ty}, ts[i]? = some t → ∃ v, vs[i]? = some v ∧ t.is S v := by
  induction h with
  | nil => intro i t e; simp at e
  | cons a _ ih =>
    intro i t e
    cases i with
    | zero => simp at e; subst e; exact ⟨_, rfl, a⟩
    | succ j => simpa using ih (by simpa using e)
theorem Tys.got {S : Hp} {ts : List Ty} {vs : List V} (h : Tys S ts vs) : ∀ {i : Nat} {v : V}, vs[i]? = some v → ∃ t, ts[i]? = some t ∧ t.is S v := by
  induction h with
  | nil => intro i t e; simp at e
  | cons a _ ih =>
    intro i t e
    cases i with
    | zero => simp at e; subst e; exact ⟨_, rfl, a⟩
    | succ j => simpa using ih (by simpa using e)
theorem Tys.app {S : Hp} {ts us : List Ty} {vs ws : List V} (h : Tys S ts vs) (k : Tys S us ws) : Tys S (ts ++ us) (vs ++ ws) := by
  induction h with
  | nil => exact k
  | cons a _ ih => exact .cons a ih
theorem Tys.snoc {S : Hp} {ts : List Ty} {vs : List V} {t : Ty} {v : V} (h : Tys S ts vs) (k : t.is S v) : Tys S (ts ++ [t]) (vs ++ [v]) := h.app (.cons k .nil)
theorem Tys.take {S : Hp} {ts : List Ty} {vs : List V} (h : Tys S ts vs) : ∀ n, Tys S (ts.take n) (vs.take n) := by
  induction h with
  | nil => intro n; simp; exact .nil
  | cons a _ ih =>
    intro n
    cases n with
    | zero => exact .nil
    | succ m => exact .cons a (ih m)
theorem Tys.drop {S : Hp} {ts : List Ty} {vs : List V} (h : Tys S ts vs) : ∀ n, Tys S (ts.drop n) (vs.drop n) := by
  induction h with
  | nil => intro n; simp; exact .nil
  | cons a t ih =>
    intro n
    cases n with
    | zero => exact .cons a t
    | succ m => exact ih m
theorem Tys.set {S : Hp} {ts : List Ty} {vs : List V} {t : Ty} {v : V} (h : Tys S ts vs) (k : t.is S v) : ∀ n, Tys S (ts.set n t) (vs.set n v) := by
  induction h with
  | nil => intro n; exact .nil
  | cons a r ih =>
    intro n
    cases n with
    | zero => exact .cons k r
    | succ m => exact .cons a (ih m)
theorem Tys.map {S : Hp} {α : Type} {f : α → Ty} {g : α → V} : ∀ {l : List α}, (∀ x ∈ l, (f x).is S (g x)) → Tys S (l.map f) (l.map g)
  | [], _ => .nil
  | x :: l, h => .cons (h x (List.mem_cons_self ..)) (Tys.map fun y hy => h y (List.mem_cons_of_mem _ hy))
theorem Tys.one {S : Hp} {t : Ty} {vs : List V} (h : Tys S [t] vs) : ∃ v, vs = [v] ∧ t.is S v := by
  cases h with
  | cons a r => cases r; exact ⟨_, rfl, a⟩
theorem Tys.two {S : Hp} {t u : Ty} {vs : List V} (h : Tys S [t, u] vs) : ∃ v w, vs = [v, w] ∧ t.is S v ∧ u.is S w := by
  cases h with
  | cons a r => obtain ⟨w, rfl, b⟩ := r.one; exact ⟨_, _, rfl, a, b⟩
theorem Tys.three {S : Hp} {t u x : Ty} {vs : List V} (h : Tys S [t, u, x] vs) : ∃ v w y, vs = [v, w, y] ∧ t.is S v ∧ u.is S w ∧ x.is S y := by
  cases h with
  | cons a r => obtain ⟨w, y, rfl, b, c⟩ := r.two; exact ⟨_, _, _, rfl, a, b, c⟩

/-! ### the types -/
def cst (v : V) : Ty := ⟨fun _ u => u = v, fun _ h => h⟩
abbrev tNon : Ty := cst .non
abbrev tBl (b : Bool) : Ty := cst (.bl b)
abbrev tIn (i : Int) : Ty := cst (.int i)
abbrev tSt (s : Str) : Ty := cst (.str s)
def tTu (ts : List Ty) : Ty := ⟨fun S u => ∃ a vs, u = .ref a ∧ S a = some (.tup vs) ∧ Tys S ts vs, fun e ⟨a, vs, h1, h2, h3⟩ => ⟨a, vs, h1, e _ _ h2, h3.mono e⟩⟩
def tLs (ts : List Ty) : Ty := ⟨fun S u => ∃ a vs, u = .ref a ∧ S a = some (.lst vs) ∧ Tys S ts vs, fun e ⟨a, vs, h1, h2, h3⟩ => ⟨a, vs, h1, e _ _ h2, h3.mono e⟩⟩
/-- some of these -/
def tEx {ι : Type} (p : ι → Prop) (t : ι → Ty) : Ty := ⟨fun S u => ∃ i, p i ∧ (t i).is S u, fun e ⟨i, h1, h2⟩ => ⟨i, h1, (t i).mono e h2⟩⟩
def tKy : Key → Ty
  | .inl i => tIn i
  | .inr s => tSt s
theorem tKy_is {S : Hp} {k : Key} {v : V} : (tKy k).is S v ↔ v = kV k := by cases k <;> exact Iff.rfl
abbrev tKs (r : List Key) : Ty := tTu (r.map tKy)
/-- what stands in a dict, in order -/
inductive Kvs {κ : Type} (S : Hp) : List (κ × Ty) → List (κ × V) → Prop where
  | nil : Kvs S [] []
  | cons {k : κ} {t : Ty} {v : V} {ts : List (κ × Ty)} {vs : List (κ × V)} : t.is S v → Kvs S ts vs → Kvs S ((k, t) :: ts) ((k, v) :: vs)
theorem Kvs.mono {κ : Type} {S T : Hp} (e : Ex S T) {ts : List (κ × Ty)} {vs : List (κ × V)} (h : Kvs S ts vs) : Kvs T ts vs := by
  induction h with
  | nil => exact .nil
  | cons a _ ih => exact .cons (Ty.mono _ e a) ih
theorem Kvs.len {κ : Type} {S : Hp} {ts : List (κ × Ty)} {vs : List (κ × V)} (h : Kvs S ts vs) : ts.length = vs.length := by
  induction h with
  | nil => rfl
  | cons _ _ ih => simp [ih]
theorem Kvs.keys {κ : Type} {S : Hp} {ts : List (κ × Ty)} {vs : List (κ × V)} (h : Kvs S ts vs) : vs.map (·.1) = ts.map (·.1) := by
  induction h with
  | nil => rfl
  | cons _ _ ih => simp [ih]
def tDT (kvs : List (List Key × Ty)) : Ty := ⟨fun S u => ∃ a vs, u = .ref a ∧ S a = some (.dT vs) ∧ Kvs S kvs vs, fun e ⟨a, vs, h1, h2, h3⟩ => ⟨a, vs, h1, e _ _ h2, h3.mono e⟩⟩
def tDK (kvs : List (Key × Ty)) : Ty := ⟨fun S u => ∃ a vs, u = .ref a ∧ S a = some (.dK vs) ∧ Kvs S kvs vs, fun e ⟨a, vs, h1, h2, h3⟩ => ⟨a, vs, h1, e _ _ h2, h3.mono e⟩⟩

theorem ks_vals {S : Hp} : ∀ {r : List Key} {vs : List V}, Tys S (r.map tKy) vs → vs = r.map kV
  | [], _, h => by cases h; rfl
  | k :: r, _, h => by
    cases h with
    | cons a t => rw [tKy_is.mp a, ks_vals t] <;> rfl
theorem tKs_is {S : Hp} {r : List Key} {v : V} (h : (tKs r).is S v) : ∃ a, v = .ref a ∧ S a = some (.tup (r.map kV)) := by
  obtain ⟨a, vs, h1, h2, h3⟩ := h
  exact ⟨a, h1, by rw [h2, ks_vals h3]⟩
theorem tKs_of {S : Hp} {r : List Key} {a : Addr} (h : S a = some (.tup (r.map kV))) : (tKs r).is S (.ref a) := ⟨a, _, rfl, h, Tys.map fun k _ => tKy_is.mpr rfl⟩

/-! ### growth of the frozen part S and of the heap H; mu: what may change -/
structure Gr (mu : Addr → Prop) (S H S' H' : Hp) : Prop where
  ss : Ex S S'
  sh : Ex S' H'
  hh : ∀ a o, H a = some o → ¬ mu a → H' a = some o
  old : ∀ a o, H a = some o → Mut (some o) → S' a = S a
  al : ∀ a o, H a = some o → ∃ o', H' a = some o' ∧ (Mut (some o) → Mut (some o'))
abbrev no : Addr → Prop := fun _ => False
theorem Gr.refl {mu : Addr → Prop} {S H : Hp} (h : Ex S H) : Gr mu S H S H := ⟨Ex.rfl', h, fun _ _ e _ => e, fun _ _ _ _ => rfl, fun _ o e => ⟨o, e, id⟩⟩
theorem Gr.trans {mu : Addr → Prop} {S H S1 H1 S2 H2 : Hp} (a : Gr mu S H S1 H1) (b : Gr mu S1 H1 S2 H2) : Gr mu S H S2 H2 where
  ss := a.ss.comp b.ss
  sh := b.sh
  hh := fun x o e n => b.hh x o (a.hh x o e n) n
  old := fun x o e m => by
    obtain ⟨o', e', m'⟩ := a.al x o e
    rw [b.old x o' e' (m' m), a.old x o e m]
  al := fun x o e => by
    obtain ⟨o', e', m'⟩ := a.al x o e
    obtain ⟨o2, e2, m2⟩ := b.al x o' e'
    exact ⟨o2, e2, fun m => m2 (m' m)⟩
theorem Gr.weak {mu : Addr → Prop} {S H S1 H1 : Hp} (a : Gr no S H S1 H1) : Gr mu S H S1 H1 := ⟨a.ss, a.sh, fun x o e _ => a.hh x o e id, a.old, a.al⟩
/-- a new frozen object -/
theorem Gr.new {S H : Hp} {p : Addr} {o : HO} (h : Ex S H) (hp : H p = none) : Gr no S H (upd S p o) (upd H p o) := by
  have hs : S p = none := by
    cases e : S p with
    | none => rfl
    | some u => rw [h p u e] at hp; cases hp
  refine ⟨fun a u e => ?_, fun a u e => ?_, fun a u e _ => ?_, fun a u e _ => ?_, fun a u e => ⟨u, ?_, id⟩⟩
  · rw [upd_ne (ne_of_none e hs)]; exact e
  · by_cases q : a = p
    · subst q; rw [upd_same] at e ⊢; exact e
    · rw [upd_ne q] at e ⊢; exact h a u e
  · rw [upd_ne (ne_of_none e hp)]; exact e
  · rw [upd_ne (ne_of_none e hp)]
  · rw [upd_ne (ne_of_none e hp)]; exact e
/-- a new object that is not frozen -/
theorem Gr.lay {S H : Hp} {p : Addr} {o : HO} (h : Ex S H) (hp : H p = none) : Gr no S H S (upd H p o) :=
  ⟨Ex.rfl', fun a u e => by
    rw [upd_ne (ne_of_none (h a u e) hp)]
    exact h a u e, fun a u e _ => by
    rw [upd_ne (ne_of_none e hp)]
    exact e, fun _ _ _ _ => rfl, fun a u e => ⟨u, by
    rw [upd_ne (ne_of_none e hp)]
    exact e, id⟩⟩
/-- a tuple that stands is told -/
theorem Gr.learn {S H : Hp} {p : Addr} {vs : List V} (h : Ex S H) (hp : H p = some (.tup vs)) : Gr no S H (upd S p (.tup vs)) H where
  ss := fun a u e => by
    by_cases q : a = p
    · subst q; rw [upd_same]; rw [h a u e] at hp; exact hp.symm
    · rw [upd_ne q]; exact e
  sh := fun a u e => by
    by_cases q : a = p
    · subst q; rw [upd_same] at e; cases e; exact hp
    · rw [upd_ne q] at e; exact h a u e
  hh := fun _ _ e _ => e
  old := fun a u e m => by
    by_cases q : a = p
    · subst q; rw [hp] at e; cases e; exact m.elim
    · rw [upd_ne q]
  al := fun a u e => ⟨u, e, id⟩

/-! ### what a def may change, and what holds of it -/
structure Md where
  dom : Addr → Prop
  ch : Addr → Prop
  inv : Hp → Hp → Prop
  al : ∀ {S H : Hp} {a : Addr}, inv S H → ch a → ∃ o, H a = some o
  stab : ∀ {S H S' H' : Hp}, (∀ a o, ch a → H a = some o → H' a = some o ∧ (Mut (some o) → S' a = S a)) → (∀ a q, H a = some (LamX.CodeO a q) → H' a = some (LamX.CodeO a q)) → inv S H → inv S' H'
def Md.pure : Md := ⟨no, no, fun _ _ => True, fun _ h => h.elim, fun _ _ _ => trivial⟩
theorem Md.stabG (M : Md) {S H S' H' : Hp} (g : Gr no S H S' H') (h : M.inv S H) : M.inv S' H' := M.stab (fun a o _ e => ⟨g.hh a o e id, g.old a o e⟩) (fun a f e => g.hh a _ e id) h
theorem Md.fresh (M : Md) {S H : Hp} {p : Addr} (h : M.inv S H) (hp : H p = none) : ¬ M.ch p := fun c => by
  obtain ⟨o, e⟩ := M.al h c
  rw [hp] at e
  cases e
theorem Ex.none {S H : Hp} {p : Addr} (h : Ex S H) (hp : H p = none) : S p = none := by
  cases e : S p with
  | none => rfl
  | some u => rw [h p u e] at hp; cases hp
/-- an object that was not there at the start is frozen -/
theorem Gr.freeze {mu : Addr → Prop} {S H S' H' : Hp} {p : Addr} {o : HO} (g : Gr mu S H S' H') (hp : H p = none) (hs : S' p = none) (ho : H' p = some o) : Gr mu S H (upd S' p o) H' where
  ss := fun a u e => by
    rw [upd_ne (ne_of_none (g.ss a u e) hs)]
    exact g.ss a u e
  sh := fun a u e => by
    by_cases q : a = p
    · subst q; rw [upd_same] at e; cases e; exact ho
    · rw [upd_ne q] at e; exact g.sh a u e
  hh := g.hh
  old := fun a u e m => by
    rw [upd_ne (ne_of_none e hp)]
    exact g.old a u e m
  al := g.al
/-- .. is written -/
theorem Gr.write {mu : Addr → Prop} {S H S' H' : Hp} {p : Addr} {o : HO} (g : Gr mu S H S' H') (hp : H p = none) (hs : S' p = none) : Gr mu S H S' (upd H' p o) where
  ss := g.ss
  sh := fun a u e => by
    rw [upd_ne (ne_of_none e hs)]
    exact g.sh a u e
  hh := fun a u e n => by
    rw [upd_ne (ne_of_none e hp)]
    exact g.hh a u e n
  old := g.old
  al := fun a u e => by
    obtain ⟨o', h, m⟩ := g.al a u e
    exact ⟨o', by rw [upd_ne (ne_of_none e hp)]; exact h, m⟩
theorem Md.stabF (M : Md) {S H : Hp} {p : Addr} {o : HO} (hs : S p = none) (hc : ¬ M.ch p) (h : M.inv S H) : M.inv (upd S p o) H :=
  M.stab (fun a u c e => ⟨e, fun _ => upd_ne (show a ≠ p from fun q => hc (by rw [← q]; exact c))⟩) (fun _ _ e => e) h
theorem Md.stabW (M : Md) {S H : Hp} {p : Addr} {o : HO} (hc : ¬ M.ch p) (hx : ∀ q, H p ≠ some (LamX.CodeO p q)) (h : M.inv S H) : M.inv S (upd H p o) :=
  M.stab (fun a u c e => ⟨by rw [upd_ne (show a ≠ p from fun q => hc (by rw [← q]; exact c))]; exact e, fun _ => rfl⟩) (fun a f e => by rw [upd_ne (show a ≠ p from fun q => hx f (by rw [← q]; exact e))]; exact e) h

/-- what a cell of one's own holds -/
inductive Cell where
  | lst (ts : List Ty)
  | dT (kvs : List (List Key × Ty))
  | dK (kvs : List (Key × Ty))
  | ins (C : Addr) (fs : List (Str × Ty))
def Cell.is (S : Hp) : Cell → HO → Prop
  | .lst ts, o => ∃ vs, o = .lst vs ∧ Tys S ts vs
  | .dT kvs, o => ∃ vs, o = .dT vs ∧ Kvs S kvs vs
  | .dK kvs, o => ∃ vs, o = .dK vs ∧ Kvs S kvs vs
  | .ins C fs, o => ∃ dx vs, o = .ins C dx vs ∧ Kvs S fs vs
theorem Cell.mono {S T : Hp} (e : Ex S T) {c : Cell} {o : HO} (h : c.is S o) : c.is T o := by
  cases c with
  | lst ts => obtain ⟨vs, h1, h2⟩ := h; exact ⟨vs, h1, h2.mono e⟩
  | dT ts => obtain ⟨vs, h1, h2⟩ := h; exact ⟨vs, h1, h2.mono e⟩
  | dK ts => obtain ⟨vs, h1, h2⟩ := h; exact ⟨vs, h1, h2.mono e⟩
  | ins C ts => obtain ⟨dx, vs, h1, h2⟩ := h; exact ⟨dx, vs, h1, h2.mono e⟩
def tIs (C : Addr) (fs : List (Str × Ty)) : Ty := ⟨fun S u => ∃ a dx vs, u = .ref a ∧ S a = some (.ins C dx vs) ∧ Kvs S fs vs, fun e ⟨a, dx, vs, h1, h2, h3⟩ => ⟨a, dx, vs, h1, e _ _ h2, h3.mono e⟩⟩
def Cell.ty : Cell → Ty
  | .lst ts => tLs ts
  | .dT kvs => tDT kvs
  | .dK kvs => tDK kvs
  | .ins C fs => tIs C fs
theorem Cell.ty_is {S : Hp} {c : Cell} {a : Addr} {o : HO} (h : S a = some o) (k : c.is S o) : c.ty.is S (.ref a) := by
  cases c with
  | lst ts => obtain ⟨vs, rfl, h2⟩ := k; exact ⟨a, vs, rfl, h, h2⟩
  | dT ts => obtain ⟨vs, rfl, h2⟩ := k; exact ⟨a, vs, rfl, h, h2⟩
  | dK ts => obtain ⟨vs, rfl, h2⟩ := k; exact ⟨a, vs, rfl, h, h2⟩
  | ins C ts => obtain ⟨dx, vs, rfl, h2⟩ := k; exact ⟨a, dx, vs, rfl, h, h2⟩
theorem Cell.mut {S : Hp} {c : Cell} {o : HO} (k : c.is S o) : Mut (some o) := by
  cases c with
  | lst ts => obtain ⟨vs, rfl, h2⟩ := k; trivial
  | dT ts => obtain ⟨vs, rfl, h2⟩ := k; trivial
  | dK ts => obtain ⟨vs, rfl, h2⟩ := k; trivial
  | ins C ts => obtain ⟨dx, vs, rfl, h2⟩ := k; trivial

theorem Cell.nx {S : Hp} {c : Cell} {o : HO} (k : c.is S o) (a : Addr) (q : Str) : o ≠ LamX.CodeO a q := by
  unfold LamX.CodeO
  cases c with
  | lst ts => obtain ⟨vs, rfl, h2⟩ := k; exact fun z => nomatch z
  | dT ts => obtain ⟨vs, rfl, h2⟩ := k; exact fun z => nomatch z
  | dK ts => obtain ⟨vs, rfl, h2⟩ := k; exact fun z => nomatch z
  | ins C ts => obtain ⟨dx, vs, rfl, h2⟩ := k; exact fun z => nomatch z
/-- what a name's slot holds: nothing told, a value of a type, a cell of one's own -/
inductive Slot where
  | unk
  | ty (t : Ty)
  | own (p : Addr) (c : Cell)
def SlotOk (M : Md) (S H : Hp) (x : Option V) : Slot → Prop
  | .unk => True
  | .ty t => ∃ v, x = some v ∧ t.is S v
  | .own p c => x = some (.ref p) ∧ (¬ M.ch p ∧ ¬ M.dom p) ∧ S p = none ∧ ∃ o, H p = some o ∧ c.is S o
structure Env (M : Md) (S H : Hp) (σ : St) (G : List Slot) : Prop where
  len : G.length = σ.length
  at_ : ∀ (i : Nat) (s : Slot), G[i]? = some s → ∃ x, σ[i]? = some x ∧ SlotOk M S H x s
  dis : ∀ (i j : Nat) (p : Addr) (c : Cell) (q : Addr) (d : Cell), G[i]? = some (.own p c) → G[j]? = some (.own q d) → i ≠ j → p ≠ q
theorem SlotOk.grow {M : Md} {S H S' H' : Hp} (g : Gr M.ch S H S' H') {x : Option V} {s : Slot} (h : SlotOk M S H x s) : SlotOk M S' H' x s := by
  cases s with
  | unk => trivial
  | ty t => obtain ⟨v, h1, h2⟩ := h; exact ⟨v, h1, t.mono g.ss h2⟩
  | own p c =>
    obtain ⟨h1, h2, h3, o, h4, h5⟩ := h
    exact ⟨h1, h2, by rw [g.old p o h4 (Cell.mut h5), h3], o, g.hh p o h4 h2.1, Cell.mono g.ss h5⟩
theorem Env.grow {M : Md} {S H S' H' : Hp} {σ : St} {G : List Slot} (g : Gr M.ch S H S' H') (e : Env M S H σ G) : Env M S' H' σ G :=
  ⟨e.len, fun i s h => let ⟨x, h1, h2⟩ := e.at_ i s h; ⟨x, h1, h2.grow g⟩, e.dis⟩

/-! ### the context of a piece of text -/
structure Gc where
  P : Program
  w : World
  K : PySem.W.Frag
  mg : Str → Option Value
  base : Heap
structure Lc where
  N : List Str
  sc : Scope
  k : Nat
  fn : Str → Bool
structure At (g : Gc) (l : Lc) (X : Cx) : Prop where
  prog : X.prog = g.P
  w : X.w = g.w
  K : X.K = g.K
  mg : X.mg = g.mg
  base : X.base = g.base
  N : X.N = l.N
  sc : X.env.scope = l.sc
  room : Room l.k X.A
  calm : X.calm = true
  nd : l.N.Nodup
  fn : ∀ x, l.fn x = true → X.fn x = true
  nox : X.xe = fun _ _ => False
  kind : X.env.scope.kind = .function

/-! ### readings -/
def Pre (M : Md) (G : List Slot) (σ : St) (S H : Hp) : Prop := Ex S H ∧ M.inv S H ∧ Env M S H σ G
def Post (M : Md) (S H : Hp) (S' H' : Hp) : Prop := Gr M.ch S H S' H' ∧ M.inv S' H'
theorem Post.trans {M : Md} {S H S1 H1 S2 H2 : Hp} (a : Post M S H S1 H1) (b : Post M S1 H1 S2 H2) : Post M S H S2 H2 := ⟨a.1.trans b.1, b.2⟩
theorem Post.of {M : Md} {S H S1 H1 : Hp} (i : M.inv S H) (g : Gr no S H S1 H1) : Post M S H S1 H1 := ⟨g.weak, M.stabG g i⟩
theorem Pre.next {M : Md} {G : List Slot} {σ : St} {S H S' H' : Hp} (p : Pre M G σ S H) (q : Post M S H S' H') : Pre M G σ S' H' := ⟨q.1.sh, q.2, p.2.2.grow q.1⟩
def tE (M : Md) (G : List Slot) (t : Ty) : TE := fun σ H Q => ∃ S, Pre M G σ S H ∧ ∀ v S' H', Post M S H S' H' → t.is S' v → Q v H'
def tT (M : Md) (G : List Slot) (b : Bool → Prop) : TT := fun σ H Q => ∃ S, Pre M G σ S H ∧ ∀ c S' H', Post M S H S' H' → b c → Q c H'
def tA (M : Md) (G : List Slot) (ts : List Ty) : TA := fun σ H Q => ∃ S, Pre M G σ S H ∧ ∀ vs S' H', Post M S H S' H' → Tys S' ts vs → Q vs H'
def XE (g : Gc) (l : Lc) (M : Md) (G : List Slot) (e : Expr) (t : Ty) : Prop := ∀ X, At g l X → PE X e (tE M G t)
def XT (g : Gc) (l : Lc) (M : Md) (G : List Slot) (e : Expr) (b : Bool → Prop) : Prop := ∀ X, At g l X → PT X e (tT M G b)
def XA (g : Gc) (l : Lc) (M : Md) (G : List Slot) (es : List Expr) (ts : List Ty) : Prop := ∀ X, At g l X → PA X es (tA M G ts)
theorem conv {X : Cx} {e : Expr} {t u : TE} (p : PE X e t) (c : ∀ σ H Q, u σ H Q → t σ H Q) : PE X e u := ⟨fun pins s σ H Q I h => p.run pins s σ H Q I (c σ H Q h)⟩
theorem convT {X : Cx} {e : Expr} {t u : TT} (p : PT X e t) (c : ∀ σ H Q, u σ H Q → t σ H Q) : PT X e u := ⟨fun pins s σ H Q I h => p.run pins s σ H Q I (c σ H Q h)⟩
theorem convA {X : Cx} {e : List Expr} {t u : TA} (p : PA X e t) (c : ∀ σ H Q, u σ H Q → t σ H Q) : PA X e u := ⟨fun pos pins s σ H Q I h => p.run pos pins s σ H Q I (c σ H Q h)⟩

section
variable {g : Gc} {l : Lc} {M : Md} {G : List Slot} {pos p : Pos} {e a b : Expr} {es : List Expr} {t u r : Ty} {ts : List Ty}
/-- from one reading to the next -/
theorem tE.step {t : Ty} {σ : St} {S H : Hp} {Q : VK} (p : Pre M G σ S H) (k : ∀ v S' H', Post M S H S' H' → Pre M G σ S' H' → t.is S' v → Q v H') : tE M G t σ H Q := ⟨S, p, fun v S' H' q h => k v S' H' q (p.next q) h⟩
theorem tA.step {ts : List Ty} {σ : St} {S H : Hp} {Q : List V → Hp → Prop} (p : Pre M G σ S H) (k : ∀ v S' H', Post M S H S' H' → Pre M G σ S' H' → Tys S' ts v → Q v H') : tA M G ts σ H Q := ⟨S, p, fun v S' H' q h => k v S' H' q (p.next q) h⟩
theorem tT.step {b : Bool → Prop} {σ : St} {S H : Hp} {Q : Bool → Hp → Prop} (p : Pre M G σ S H) (k : ∀ c S' H', Post M S H S' H' → Pre M G σ S' H' → b c → Q c H') : tT M G b σ H Q := ⟨S, p, fun v S' H' q h => k v S' H' q (p.next q) h⟩
/-- a wider type -/
def Sub (t u : Ty) : Prop := ∀ S v, t.is S v → u.is S v
theorem Sub.rfl' : Sub t t := fun _ _ h => h
theorem x_sub (h : XE g l M G e t) (s : Sub t u) : XE g l M G e u := fun X A => conv (h X A) fun σ H Q ⟨S, p, q⟩ => ⟨S, p, fun v S' H' a b => q v S' H' a (s _ _ b)⟩
theorem xt_sub {b c : Bool → Prop} (h : XT g l M G e b) (s : ∀ x, b x → c x) : XT g l M G e c := fun X A => convT (h X A) fun σ H Q ⟨S, p, q⟩ => ⟨S, p, fun v S' H' a b => q v S' H' a (s _ b)⟩
theorem sub_ex {ι : Type} {pr : ι → Prop} {f : ι → Ty} (i : ι) (h : pr i) : Sub (f i) (tEx pr f) := fun _ _ k => ⟨i, h, k⟩

theorem At.vis {X : Cx} (A : At g l X) {x : Str} (h : Vis l.sc x) : Vis X.env.scope x := by rw [A.sc]; exact h
theorem At.gl {X : Cx} (A : At g l X) {x : Str} (h : l.sc.names.lookup x = some .globalImplicit) : Gl X x := by
  show X.env.scope.names.lookup x = _
  rw [A.sc]; exact h
/-- a name of one's own -/
theorem x_var (i : Nat) {x : Str} (hg : G[i]? = some (.ty t) := by rfl) (hN : l.N[i]? = some x := by rfl) (hv : Vis l.sc x := by first | exact Or.inl rfl | exact Or.inr (Or.inl rfl) | exact Or.inr (Or.inr rfl))
    (hd : (x == ("__debug__" : Str)) = false := by decide) (hc : (x == ("__classdict__" : Str)) = false := by decide) : XE g l M G (.Name x p) t := fun X A =>
  conv (pe_var (by rw [A.N]; exact hN) (A.vis hv) hd hc) fun σ H Q ⟨S, pr, q⟩ => by
    obtain ⟨y, h1, v, h2, h3⟩ := pr.2.2.at_ i _ hg
    subst h2
    exact ⟨v, h1, q v S H (Post.of pr.2.1 (Gr.refl pr.1)) h3⟩
theorem x_con {X : Cx} {v : V} {σ : St} {H : Hp} {Q : VK} (h : tE M G (cst v) σ H Q) : tC v σ H Q := by
  obtain ⟨S, pr, q⟩ := h
  exact q v S H (Post.of pr.2.1 (Gr.refl pr.1)) rfl
theorem x_int {i : Int} {j : Nat} : XE g l M G (.Constant (.int i) j pos) (tIn i) := fun X A => conv pe_int fun _ _ _ h => x_con (X := X) h
theorem x_str {s : Str} {j : Nat} : XE g l M G (.Constant (.str s) j pos) (tSt s) := fun X A => conv pe_str fun _ _ _ h => x_con (X := X) h
theorem x_bl {b : Bool} {j : Nat} : XE g l M G (.Constant (.bool b) j pos) (tBl b) := fun X A => conv pe_bl fun _ _ _ h => x_con (X := X) h
theorem x_non {j : Nat} : XE g l M G (.Constant .none j pos) tNon := fun X A => conv pe_non fun _ _ _ h => x_con (X := X) h
theorem x_glob {x : Str} {v : V} {u : Value} (hm : g.mg x = some u) (r : RelV v u) (hg : l.sc.names.lookup x = some .globalImplicit := by rfl) (hd : (x == ("__debug__" : Str)) = false := by decide) : XE g l M G (.Name x p) (cst v) := fun X A =>
  conv (pe_glob (A.gl hg) (by rw [A.mg]; exact hm) r hd) fun _ _ _ h => x_con (X := X) h
theorem x_bltn {x : Str} {v : V} {u : Value} (hm : g.mg x = none) (hv : bootBuiltins x = some u) (r : RelV v u) (hg : l.sc.names.lookup x = some .globalImplicit := by rfl) (hn : x ≠ "__name__" := by decide) (hd : (x == ("__debug__" : Str)) = false := by decide) : XE g l M G (.Name x p) (cst v) := fun X A =>
  conv (pe_bltn (A.gl hg) (by rw [A.mg]; exact hm) hv r hn hd) fun _ _ _ h => x_con (X := X) h

/-- argument lists -/
theorem xa_nil : XA g l M G [] [] := fun X A => convA pa_nil fun σ H Q ⟨S, pr, q⟩ => q [] S H (Post.of pr.2.1 (Gr.refl pr.1)) .nil
theorem xa_cons (ha : XE g l M G e t) (hr : XA g l M G es ts) (hs : ∀ env, starEach (e :: es) env = (false, eval e env) :: starEach es env := by intro _; rfl) : XA g l M G (e :: es) (t :: ts) := fun X A =>
  convA (pa_cons (ha X A) (hr X A) (hs _)) fun σ H Q ⟨S, pr, q⟩ =>
    tE.step pr fun v S1 H1 q1 p1 h1 => tA.step p1 fun vs S2 H2 q2 p2 h2 => q (v :: vs) S2 H2 (q1.trans q2) (.cons (t.mono q2.1.ss h1) h2)
/-- a written tuple, a written list -/
theorem x_tup {k : Nat} (h : XA g l M G es ts) (hl : ts.length ≤ 100 := by exact of_decide_eq_true rfl) : XE g l M G (.Tuple es k pos) (tTu ts) := fun X A =>
  conv (pe_tup (h X A)) fun σ H Q ⟨S, pr, q⟩ => tA.step pr fun vs S1 H1 q1 p1 h1 => ⟨by rw [← h1.len]; exact Nat.le_trans hl (by decide), fun a ha => by
    have gr := Gr.new (o := .tup vs) p1.1 ha
    exact q (.ref a) _ _ (q1.trans (Post.of p1.2.1 gr)) ⟨a, vs, rfl, upd_same, h1.mono gr.ss⟩⟩
theorem x_lst (h : XA g l M G es ts) (hl : ts.length ≤ 100 := by exact of_decide_eq_true rfl) : XE g l M G (.List es pos) (tLs ts) := fun X A =>
  conv (pe_lst (h X A)) fun σ H Q ⟨S, pr, q⟩ => tA.step pr fun vs S1 H1 q1 p1 h1 => ⟨by rw [← h1.len]; exact Nat.le_trans hl (by decide), fun a ha => by
    have gr := Gr.new (o := .lst vs) p1.1 ha
    exact q (.ref a) _ _ (q1.trans (Post.of p1.2.1 gr)) ⟨a, vs, rfl, upd_same, h1.mono gr.ss⟩⟩

/-- what a two-place rule gives on two types -/
def R2T (r : R2) (t u z : Ty) : Prop := ∀ S H x y (Q : VK), Ex S H → t.is S x → u.is S y → (∀ w S' H', Gr no S H S' H' → z.is S' w → Q w H') → r x y H Q
theorem x_op {op : Operator} {f : R2} {z : Ty} (ho : ∀ X, At g l X → OpR X (binaryOp op) f) (hr : R2T f t u z) (ha : XE g l M G a t) (hb : XE g l M G b u) : XE g l M G (.BinOp a op b pos) z := fun X A =>
  conv (pe_op (ho X A) (ha X A) (hb X A)) fun σ H Q ⟨S, pr, q⟩ => tE.step pr fun v S1 H1 q1 p1 h1 => tE.step p1 fun w S2 H2 q2 p2 h2 =>
    hr S2 H2 v w Q p2.1 (t.mono q2.1.ss h1) h2 fun y S3 H3 q3 h3 => q y S3 H3 ((q1.trans q2).trans (Post.of p2.2.1 q3)) h3
theorem x_cmp {op : CmpOp} {f : R2} {z : Ty} (ho : ∀ X, At g l X → OpR X (compareOp op) f) (hr : R2T f t u z) (ha : XE g l M G a t) (hb : XE g l M G b u) (hm : behindInMarks op b = false := by first | exact nomark _ | rfl) : XE g l M G (.Compare a [op] [b] pos) z := fun X A =>
  conv (pe_cmpR (ho X A) (ha X A) (hb X A) hm) fun σ H Q ⟨S, pr, q⟩ => tE.step pr fun v S1 H1 q1 p1 h1 => tE.step p1 fun w S2 H2 q2 p2 h2 =>
    hr S2 H2 v w Q p2.1 (t.mono q2.1.ss h1) h2 fun y S3 H3 q3 h3 => q y S3 H3 ((q1.trans q2).trans (Post.of p2.2.1 q3)) h3
theorem xt_cmp {op : CmpOp} {f : R2} {c : Bool → Prop} (ho : ∀ X, At g l X → OpR X (compareOp op) f) (hr : R2T f t u (tEx c tBl)) (ha : XE g l M G a t) (hb : XE g l M G b u) (hm : behindInMarks op b = false := by first | exact nomark _ | rfl) : XT g l M G (.Compare a [op] [b] pos) c := fun X A =>
  convT (pt_cmpR (ho X A) (ha X A) (hb X A) hm) fun σ H Q ⟨S, pr, q⟩ => tE.step pr fun v S1 H1 q1 p1 h1 => tE.step p1 fun w S2 H2 q2 p2 h2 =>
    hr S2 H2 v w _ p2.1 (t.mono q2.1.ss h1) h2 fun y S3 H3 q3 ⟨k, h4, h5⟩ => ⟨k, h5, q k S3 H3 ((q1.trans q2).trans (Post.of p2.2.1 q3)) h4⟩

/-! ### tests -/
theorem xt_val {c : Bool → Prop} (h : XE g l M G e (tEx c tBl)) (he : ∀ (env : PySem.Env) whole, isTrue e env whole = (do let v ← whole; standAt e.pos; holding [v] (truthy v)) := by intro _ _; rfl) : XT g l M G e c := fun X A =>
  convT (pt_val (h X A) (he _)) fun σ H Q ⟨S, pr, q⟩ => tE.step pr fun v S1 H1 q1 p1 ⟨k, h1, h2⟩ => ⟨k, h2, q k S1 H1 q1 h1⟩
theorem xt_not {c : Bool → Prop} (h : XT g l M G a c) : XT g l M G (.UnaryOp .Not a pos) (fun b => c (!b)) := fun X A =>
  convT (pt_not (h X A)) fun σ H Q ⟨S, pr, q⟩ => tT.step pr fun k S1 H1 q1 p1 h1 => q (!k) S1 H1 q1 (by show c (!!k); rw [Bool.not_not]; exact h1)
def XW (g : Gc) (l : Lc) (M : Md) (G : List Slot) (e : Expr) (b : Bool → Prop) : Prop := ∀ X, At g l X → PW X e (tT M G b)
theorem convW {X : Cx} {e : Expr} {t u : TT} (p : PW X e t) (c : ∀ σ H Q, u σ H Q → t σ H Q) : PW X e u := ⟨fun wh pins s σ H Q I h => p.run wh pins s σ H Q I (c σ H Q h)⟩
theorem xw_t {c : Bool → Prop} (h : XW g l M G e c) : XT g l M G e c := fun X A => (h X A).pt
variable {rest : List Expr}
theorem xw_and1 {c : Bool → Prop} (h : XT g l M G a c) : XW g l M G (.BoolOp .And [a] pos) c := fun X A => pw_and1 (h X A)
theorem xw_or1 {c : Bool → Prop} (h : XT g l M G a c) : XW g l M G (.BoolOp .Or [a] pos) c := fun X A => pw_or1 (h X A)
theorem pw_never {X : Cx} : PW X e (fun _ _ _ => False) := ⟨fun _ _ _ _ _ _ _ h => h.elim⟩
theorem pe_never {X : Cx} : PE X e (fun _ _ _ => False) := ⟨fun _ _ _ _ _ _ h => h.elim⟩
theorem xw_and {c d : Bool → Prop} (h : XT g l M G a c) (k : c true → XW g l M G (.BoolOp .And (b :: rest) pos) d) : XW g l M G (.BoolOp .And (a :: b :: rest) pos) (fun x => (c true ∧ d x) ∨ (c false ∧ x = false)) := fun X A => by
  by_cases hc : c true
  · refine convW (pw_and (h X A) (k hc X A)) fun σ H Q ⟨S, pr, q⟩ => tT.step pr fun y S1 H1 q1 p1 h1 => ?_
    cases y with
    | true => exact iteT (tT.step p1 fun z S2 H2 q2 p2 h2 => q z S2 H2 (q1.trans q2) (.inl ⟨h1, h2⟩))
    | false => exact iteF (q false S1 H1 q1 (.inr ⟨h1, rfl⟩))
  · refine convW (pw_and (h X A) pw_never) fun σ H Q ⟨S, pr, q⟩ => tT.step pr fun y S1 H1 q1 p1 h1 => ?_
    cases y with
    | true => exact absurd h1 hc
    | false => exact iteF (q false S1 H1 q1 (.inr ⟨h1, rfl⟩))
theorem xw_or {c d : Bool → Prop} (h : XT g l M G a c) (k : c false → XW g l M G (.BoolOp .Or (b :: rest) pos) d) : XW g l M G (.BoolOp .Or (a :: b :: rest) pos) (fun x => (c false ∧ d x) ∨ (c true ∧ x = true)) := fun X A => by
  by_cases hc : c false
  · refine convW (pw_or (h X A) (k hc X A)) fun σ H Q ⟨S, pr, q⟩ => tT.step pr fun y S1 H1 q1 p1 h1 => ?_
    cases y with
    | false => exact iteF (tT.step p1 fun z S2 H2 q2 p2 h2 => q z S2 H2 (q1.trans q2) (.inl ⟨h1, h2⟩))
    | true => exact iteT (q true S1 H1 q1 (.inr ⟨h1, rfl⟩))
  · refine convW (pw_or (h X A) pw_never) fun σ H Q ⟨S, pr, q⟩ => tT.step pr fun y S1 H1 q1 p1 h1 => ?_
    cases y with
    | false => exact absurd h1 hc
    | true => exact iteT (q true S1 H1 q1 (.inr ⟨h1, rfl⟩))
/-- and, or as values of truths -/
theorem x_one {op : BoolOp} (h : XE g l M G a t) : XE g l M G (.BoolOp op [a] pos) t := fun X A => pe_one (h X A)
theorem x_and {c d : Bool → Prop} (h : XE g l M G a (tEx c tBl)) (k : c true → XE g l M G (.BoolOp .And (b :: rest) pos) (tEx d tBl)) : XE g l M G (.BoolOp .And (a :: b :: rest) pos) (tEx (fun x => (c true ∧ d x) ∨ (c false ∧ x = false)) tBl) := fun X A => by
  by_cases hc : c true
  · refine conv (pe_and (h X A) (k hc X A)) fun σ H Q ⟨S, pr, q⟩ => tE.step pr fun y S1 H1 q1 p1 ⟨z, h1, h2⟩ => ⟨z, h2, ?_⟩
    cases z with
    | true => exact iteT (tE.step p1 fun w S2 H2 q2 p2 ⟨x, h3, h4⟩ => q w S2 H2 (q1.trans q2) ⟨x, .inl ⟨h1, h3⟩, h4⟩)
    | false => exact iteF (q _ S1 H1 q1 ⟨false, .inr ⟨h1, rfl⟩, rfl⟩)
  · refine conv (pe_and (h X A) pe_never) fun σ H Q ⟨S, pr, q⟩ => tE.step pr fun y S1 H1 q1 p1 ⟨z, h1, h2⟩ => ⟨z, h2, ?_⟩
    cases z with
    | true => exact absurd h1 hc
    | false => exact iteF (q _ S1 H1 q1 ⟨false, .inr ⟨h1, rfl⟩, rfl⟩)
theorem x_or {c d : Bool → Prop} (h : XE g l M G a (tEx c tBl)) (k : c false → XE g l M G (.BoolOp .Or (b :: rest) pos) (tEx d tBl)) : XE g l M G (.BoolOp .Or (a :: b :: rest) pos) (tEx (fun x => (c false ∧ d x) ∨ (c true ∧ x = true)) tBl) := fun X A => by
  by_cases hc : c false
  · refine conv (pe_or (h X A) (k hc X A)) fun σ H Q ⟨S, pr, q⟩ => tE.step pr fun y S1 H1 q1 p1 ⟨z, h1, h2⟩ => ⟨z, h2, ?_⟩
    cases z with
    | false => exact iteF (tE.step p1 fun w S2 H2 q2 p2 ⟨x, h3, h4⟩ => q w S2 H2 (q1.trans q2) ⟨x, .inl ⟨h1, h3⟩, h4⟩)
    | true => exact iteT (q _ S1 H1 q1 ⟨true, .inr ⟨h1, rfl⟩, rfl⟩)
  · refine conv (pe_or (h X A) pe_never) fun σ H Q ⟨S, pr, q⟩ => tE.step pr fun y S1 H1 q1 p1 ⟨z, h1, h2⟩ => ⟨z, h2, ?_⟩
    cases z with
    | false => exact absurd h1 hc
    | true => exact iteT (q _ S1 H1 q1 ⟨true, .inr ⟨h1, rfl⟩, rfl⟩)
theorem x_not {c : Bool → Prop} (h : XE g l M G a (tEx c tBl)) : XE g l M G (.UnaryOp .Not a pos) (tEx (fun b => c (!b)) tBl) := fun X A =>
  conv (pe_not (h X A)) fun σ H Q ⟨S, pr, q⟩ => tE.step pr fun y S1 H1 q1 p1 ⟨z, h1, h2⟩ => ⟨z, h2, q _ S1 H1 q1 ⟨!z, by show c (!!z); rw [Bool.not_not]; exact h1, rfl⟩⟩

/-! ### calls -/
/-- a def's promise by types -/
def Spc {ι : Type} (mo : ι → Md → Prop) (as : ι → List Ty) (r : ι → Ty) : Sp := fun vs H Q _ => ∃ (M : Md) (i : ι) (S : Hp), mo i M ∧ Ex S H ∧ M.inv S H ∧ Tys S (as i) vs ∧ ∀ v S' H', Post M S H S' H' → (r i).is S' v → Q v H'
structure Fn (g : Gc) (x : Str) (k : Nat) (sp : Sp) : Prop where
  ex : ∃ f fd ps, FnOk g.P g.w g.K g.mg g.base CX0 k f fd ps sp ∧ g.mg x = some (.ref f) ∧ PySem.W.keepIn g.K (.ref f) = true ∧ Binds g.K fd ps []
theorem x_call {ι : Type} {mo : ι → Md → Prop} {as : ι → List Ty} {r : ι → Ty} {x : Str} {j : Nat} {p : Pos} (F : Fn g x j (Spc mo as r)) (hj : j ≤ l.k) (ha : XA g l M G (e :: es) ts)
    (hi : ∀ S vs, Tys S ts vs → ∃ i, mo i M ∧ Tys S (as i) vs ∧ Sub (r i) t) (hg : l.sc.names.lookup x = some .globalImplicit := by rfl) (hdb : (x == ("__debug__" : Str)) = false := by decide)
    (he : ∀ env, starEach (e :: es) env = (false, eval e env) :: starEach es env := by intro _; rfl) (hpl : ∀ env, (backTo pos (starEach es env)).any (·.1) = false := by intro _; rfl) : XE g l M G (.Call (.Name x p) (e :: es) [] pos) t := fun X A => by
  obtain ⟨f, fd, ps, F1, m, kp, b⟩ := F.ex
  rw [← A.prog, ← A.w, ← A.K, ← A.mg, ← A.base] at F1
  rw [← A.mg] at m
  rw [← A.K] at kp b
  refine conv (pe_call F1 (A.room.mono hj) (A.gl hg) m kp b .nil pass0 (ha X A) hdb (he _) (hpl _)) fun σ H Q ⟨S, pr, q⟩ => tA.step pr fun vs S1 H1 q1 p1 h1 => ?_
  obtain ⟨i, h2, h3, h4⟩ := hi S1 vs h1
  rw [List.append_nil]
  exact ⟨M, i, S1, h2, p1.1, p1.2.1, h3, fun v S' H' q2 h5 => q v S' H' (q1.trans q2) (h4 _ _ h5)⟩
theorem x_callI {ι : Type} {mo : ι → Md → Prop} {as : ι → List Ty} {r : ι → Ty} {x : Str} {j : Nat} {p : Pos} (F : Fn g x j (Spc mo as r)) (i : ι) (ha : XA g l M G (e :: es) (as i)) (hm : mo i M) (hj : j ≤ l.k := by decide) (hg : l.sc.names.lookup x = some .globalImplicit := by rfl) (hdb : (x == ("__debug__" : Str)) = false := by decide)
    (he : ∀ env, starEach (e :: es) env = (false, eval e env) :: starEach es env := by intro _; rfl) (hpl : ∀ env, (backTo pos (starEach es env)).any (·.1) = false := by intro _; rfl) : XE g l M G (.Call (.Name x p) (e :: es) [] pos) (r i) :=
  x_call F hj ha (fun S vs h => ⟨i, hm, h, Sub.rfl'⟩) hg hdb he hpl
/-- a call of a built-in by its rule -/
def CT (f : List V → Hp → VK → Prop) (ts : List Ty) (z : Ty) : Prop := ∀ S H vs (Q : VK), Ex S H → Tys S ts vs → (∀ w S' H', Gr no S H S' H' → z.is S' w → Q w H') → f vs H Q
theorem x_callB {id : String} {f : List V → Hp → VK → Prop} {z : Ty} {x : Str} {p : Pos} (hc : ∀ X, At g l X → CallR X (.builtin id) f) (hr : CT f ts z) (hm : g.mg x = none) (hv : bootBuiltins x = some (.builtin id)) (ha : XA g l M G (e :: es) ts)
    (hg : l.sc.names.lookup x = some .globalImplicit := by rfl) (hn : x ≠ "__name__" := by decide) (hdb : (x == ("__debug__" : Str)) = false := by decide)
    (he : ∀ env, starEach (e :: es) env = (false, eval e env) :: starEach es env := by intro _; rfl) (hpl : ∀ env, (backTo pos (starEach es env)).any (·.1) = false := by intro _; rfl) : XE g l M G (.Call (.Name x p) (e :: es) [] pos) z := fun X A =>
  conv (pe_callB (hc X A) (A.gl hg) (by rw [A.mg]; exact hm) hv (ha X A) hn hdb (he _) (hpl _)) fun σ H Q ⟨S, pr, q⟩ => tA.step pr fun vs S1 H1 q1 p1 h1 =>
    hr S1 H1 vs Q p1.1 h1 fun w S2 H2 q2 h2 => q w S2 H2 (q1.trans (Post.of p1.2.1 q2)) h2
theorem x_callTy {T : String} {f : List V → Hp → VK → Prop} {z : Ty} {x : Str} {p : Pos} (hc : ∀ X, At g l X → CallR X (.type T) f) (hr : CT f ts z) (hm : g.mg x = none) (hv : bootBuiltins x = some (.type T)) (ha : XA g l M G (e :: es) ts)
    (hg : l.sc.names.lookup x = some .globalImplicit := by rfl) (hn : x ≠ "__name__" := by decide) (hdb : (x == ("__debug__" : Str)) = false := by decide)
    (he : ∀ env, starEach (e :: es) env = (false, eval e env) :: starEach es env := by intro _; rfl) (hpl : ∀ env, (backTo pos (starEach es env)).any (·.1) = false := by intro _; rfl) : XE g l M G (.Call (.Name x p) (e :: es) [] pos) z := fun X A =>
  conv (pe_callTy (hc X A) (A.gl hg) (by rw [A.mg]; exact hm) hv (ha X A) hn hdb (he _) (hpl _)) fun σ H Q ⟨S, pr, q⟩ => tA.step pr fun vs S1 H1 q1 p1 h1 =>
    hr S1 H1 vs Q p1.1 h1 fun w S2 H2 q2 h2 => q w S2 H2 (q1.trans (Post.of p1.2.1 q2)) h2
end
end Z
end

section
/-! Z2: what is walked, targets, list comprehensions, statements. -/
namespace Z
open PySem PySem.Spec L2

/-! ### what is walked -/
structure Walk (J : It) (S : Hp) (ts : List Ty) : Prop where
  go : ∀ (S' H' : Hp) (i : Nat) (t : Ty), Ex S S' → Ex S' H' → ts[i]? = some t → J.go i H' ∧ ∀ x H2, J.yld i H' x H2 → ∃ S2, Gr no S' H' S2 H2 ∧ t.is S2 x
  stop : ∀ (S' H' : Hp), Ex S S' → Ex S' H' → J.stop ts.length H'
def tI (M : Md) (G : List Slot) (ts : List Ty) : TI := fun σ H R => ∃ S, Pre M G σ S H ∧ ∀ J S' H', Post M S H S' H' → Walk J S' ts → R J H'
def XI (g : Gc) (l : Lc) (M : Md) (G : List Slot) (tg iter : Expr) (ts : List Ty) : Prop := ∀ X, At g l X → PI X tg iter (tI M G ts)
theorem convI {X : Cx} {tg e : Expr} {t u : TI} (p : PI X tg e t) (c : ∀ σ H Q, u σ H Q → t σ H Q) : PI X tg e u := ⟨fun pins s σ H Q I h => p.run pins s σ H Q I (c σ H Q h)⟩
theorem walk_list {K : PySem.W.Frag} {S : Hp} {a : Addr} {vs : List V} {ts : List Ty} (h : S a = some (.lst vs)) (r : Tys S ts vs) : Walk (Itl K a) S ts where
  go := fun S' H' i t e1 e2 hi => by
    obtain ⟨v, hv, hT⟩ := r.get hi
    have hq : SqL K H' a vs := SqL.of (e2 _ _ (e1 _ _ h))
    refine ⟨⟨vs, v, hq, hv⟩, fun x H2 ⟨y1, y2⟩ => ?_⟩
    subst y1
    have e := y2 vs hq
    rw [hv] at e
    cases e
    exact ⟨S', Gr.refl e2, t.mono e1 hT⟩
  stop := fun S' H' e1 e2 => ⟨vs, SqL.of (e2 _ _ (e1 _ _ h)), by rw [r.len]; exact Nat.le_refl _⟩
theorem walk_tup {K : PySem.W.Frag} {S : Hp} {a : Addr} {vs : List V} {ts : List Ty} (h : S a = some (.tup vs)) (r : Tys S ts vs) : Walk (Itt K a) S ts where
  go := fun S' H' i t e1 e2 hi => by
    obtain ⟨v, hv, hT⟩ := r.get hi
    have hq : SqT K H' a vs := SqT.of (e2 _ _ (e1 _ _ h))
    refine ⟨⟨vs, v, hq, hv⟩, fun x H2 ⟨y1, y2⟩ => ?_⟩
    subst y1
    have e := y2 vs hq
    rw [hv] at e
    cases e
    exact ⟨S', Gr.refl e2, t.mono e1 hT⟩
  stop := fun S' H' e1 e2 => ⟨vs, SqT.of (e2 _ _ (e1 _ _ h)), by rw [r.len]; exact Nat.le_refl _⟩
def rngT (lo : Int) (n : Nat) : List Ty := (List.range n).map fun i => tIn (lo + (i : Nat))
theorem walk_rng {S : Hp} {lo : Int} {n : Nat} : Walk (Itr lo n) S (rngT lo n) where
  go := fun S' H' i t e1 e2 hi => by
    unfold rngT at hi
    rw [List.getElem?_map] at hi
    obtain ⟨j, hj, rfl⟩ := Option.map_eq_some_iff.mp hi
    obtain ⟨hl, hj'⟩ := List.getElem?_eq_some_iff.mp hj
    rw [List.getElem_range] at hj'
    subst hj'
    rw [List.length_range] at hl
    refine ⟨hl, fun x H2 ⟨y1, y2⟩ => ?_⟩
    subst y1 y2
    exact ⟨S', Gr.refl e2, rfl⟩
  stop := fun S' H' e1 e2 => by
    show n ≤ (rngT lo n).length
    unfold rngT
    simp
section
variable {g : Gc} {l : Lc} {M : Md} {G : List Slot} {pos p tpos : Pos} {e a b tg : Expr} {es elts : List Expr} {t u : Ty} {ts us : List Ty} {kk : Nat}
theorem xi_list (h : XE g l M G e (tLs ts)) : XI g l M G tg e ts := fun X A => convI (pi_list (h X A)) fun σ H R ⟨S, pr, q⟩ => tE.step pr fun v S1 H1 q1 p1 ⟨a, vs, e1, h1, h2⟩ =>
  ⟨a, e1, ⟨vs, SqL.of (p1.1 _ _ h1)⟩, q _ S1 H1 q1 (walk_list h1 h2)⟩
theorem xi_tup (h : XE g l M G e (tTu ts)) : XI g l M G tg e ts := fun X A => convI (pi_tup (h X A)) fun σ H R ⟨S, pr, q⟩ => tE.step pr fun v S1 H1 q1 p1 ⟨a, vs, e1, h1, h2⟩ =>
  ⟨a, e1, ⟨vs, SqT.of (p1.1 _ _ h1)⟩, q _ S1 H1 q1 (walk_tup h1 h2)⟩
/-- range(n), whatever n is: N tells which n may be -/
theorem xi_rng {n : Int} (h : XE g l M G a (tIn n)) (h1 : -(2 ^ 62) ≤ n) (h2 : n < 2 ^ 62) (hm : g.mg "range" = none) (hg : l.sc.names.lookup ("range" : Str) = some .globalImplicit := by rfl) (hs : ∀ env, starEach [a] env = [(false, eval a env)] := by intro _; rfl) :
    XI g l M G tg (.Call (.Name "range" p) [a] [] pos) (rngT 0 n.toNat) := fun X A => convI (pi_range1 (A.gl hg) (by rw [A.mg]; exact hm) (xa_cons h xa_nil hs X A) (hs _)) fun σ H R ⟨S, pr, q⟩ => tA.step pr fun vs S1 H1 q1 p1 k1 => by
  obtain ⟨v, rfl, e⟩ := k1.one
  have e : v = .int n := e
  subst e
  exact ⟨n, rfl, h1, h2, q _ S1 H1 q1 walk_rng⟩
end
/-- a pair of items -/
def zipT (ts us : List Ty) : List Ty := (ts.zip us).map fun p => tTu [p.1, p.2]
theorem zipT_get {ts us : List Ty} {i : Nat} {x : Ty} (h : (zipT ts us)[i]? = some x) : ∃ t u, ts[i]? = some t ∧ us[i]? = some u ∧ x = tTu [t, u] := by
  unfold zipT at h
  rw [List.getElem?_map] at h
  obtain ⟨p, hp, rfl⟩ := Option.map_eq_some_iff.mp h
  rw [List.getElem?_zip_eq_some] at hp
  exact ⟨p.1, p.2, hp.1, hp.2, rfl⟩
theorem pair_new {S H : Hp} {T : Addr} {x y : V} {t u : Ty} (e : Ex S H) (hT : H T = none) (hx : t.is S x) (hy : u.is S y) : ∃ S2, Gr no S H S2 (upd H T (.tup [x, y])) ∧ (tTu [t, u]).is S2 (.ref T) := by
  have gr := Gr.new (o := .tup [x, y]) e hT
  exact ⟨_, gr, T, [x, y], rfl, upd_same, .cons (t.mono gr.ss hx) (.cons (u.mono gr.ss hy) .nil)⟩
theorem walk_zipL {K : PySem.W.Frag} {S : Hp} {a b : Addr} {vs ws : List V} {ts us : List Ty} (h : S a = some (.lst vs)) (r : Tys S ts vs) (h' : S b = some (.lst ws)) (r' : Tys S us ws) : Walk (Itz K a b) S (zipT ts us) where
  go := fun S' H' i x e1 e2 hi => by
    obtain ⟨t, u, ht, hu, rfl⟩ := zipT_get hi
    obtain ⟨v, hv, hT⟩ := r.get ht
    obtain ⟨w, hw, hU⟩ := r'.get hu
    have hq : SqL K H' a vs := SqL.of (e2 _ _ (e1 _ _ h))
    have hq' : SqL K H' b ws := SqL.of (e2 _ _ (e1 _ _ h'))
    refine ⟨⟨vs, ws, v, w, hq, hq', hv, hw⟩, fun x H2 ⟨T, y1, y2, z1, z2, z3, z4, z5⟩ => ?_⟩
    subst z1 z3
    have q1 := z4 vs hq
    rw [hv] at q1
    cases q1
    have q2 := z5 ws hq'
    rw [hw] at q2
    cases q2
    exact pair_new e2 z2 (t.mono e1 hT) (u.mono e1 hU)
  stop := fun S' H' e1 e2 => ⟨vs, ws, SqL.of (e2 _ _ (e1 _ _ h)), SqL.of (e2 _ _ (e1 _ _ h')), by
    unfold zipT
    rw [← r.len, ← r'.len, List.length_map, List.length_zip]
    omega⟩
theorem walk_zipT {K : PySem.W.Frag} {S : Hp} {a b : Addr} {vs ws : List V} {ts us : List Ty} (h : S a = some (.tup vs)) (r : Tys S ts vs) (h' : S b = some (.tup ws)) (r' : Tys S us ws) : Walk (RZ.ItzT K a b) S (zipT ts us) where
  go := fun S' H' i x e1 e2 hi => by
    obtain ⟨t, u, ht, hu, rfl⟩ := zipT_get hi
    obtain ⟨v, hv, hT⟩ := r.get ht
    obtain ⟨w, hw, hU⟩ := r'.get hu
    have hq : SqT K H' a vs := SqT.of (e2 _ _ (e1 _ _ h))
    have hq' : SqT K H' b ws := SqT.of (e2 _ _ (e1 _ _ h'))
    refine ⟨⟨vs, ws, v, w, hq, hq', hv, hw⟩, fun x H2 ⟨T, y1, y2, z1, z2, z3, z4, z5⟩ => ?_⟩
    subst z1 z3
    have q1 := z4 vs hq
    rw [hv] at q1
    cases q1
    have q2 := z5 ws hq'
    rw [hw] at q2
    cases q2
    exact pair_new e2 z2 (t.mono e1 hT) (u.mono e1 hU)
  stop := fun S' H' e1 e2 => ⟨vs, ws, SqT.of (e2 _ _ (e1 _ _ h)), SqT.of (e2 _ _ (e1 _ _ h')), by
    unfold zipT
    rw [← r.len, ← r'.len, List.length_map, List.length_zip]
    omega⟩
/-- numbers ahead of items -/
def enuT (ts : List Ty) : List Ty := (List.range ts.length).zip ts |>.map fun p => tTu [tIn (p.1 : Nat), p.2]
theorem walk_enu {K : PySem.W.Frag} {S : Hp} {a : Addr} {vs : List V} {ts : List Ty} (h : S a = some (.lst vs)) (r : Tys S ts vs) : Walk (Ite K a) S (enuT ts) where
  go := fun S' H' i x e1 e2 hi => by
    unfold enuT at hi
    rw [List.getElem?_map] at hi
    obtain ⟨p, hp, rfl⟩ := Option.map_eq_some_iff.mp hi
    rw [List.getElem?_zip_eq_some] at hp
    obtain ⟨hl, hj⟩ := List.getElem?_eq_some_iff.mp hp.1
    rw [List.getElem_range] at hj
    obtain ⟨v, hv, hT⟩ := r.get hp.2
    have hq : SqL K H' a vs := SqL.of (e2 _ _ (e1 _ _ h))
    refine ⟨⟨vs, v, hq, hv⟩, fun x H2 hy => ?_⟩
    obtain ⟨T, y, z1, z2, z3, z4⟩ := hy
    subst z1 z3
    have q1 := z4 vs hq
    rw [hv] at q1
    cases q1
    rw [← hj]
    exact pair_new e2 z2 rfl (p.2.mono e1 hT)
  stop := fun S' H' e1 e2 => ⟨vs, SqL.of (e2 _ _ (e1 _ _ h)), by
    unfold enuT
    rw [List.length_map, List.length_zip, List.length_range, ← r.len]
    omega⟩
section
variable {g : Gc} {l : Lc} {M : Md} {G : List Slot} {pos p tpos : Pos} {e a b tg : Expr} {es elts : List Expr} {t u : Ty} {ts us : List Ty} {kk : Nat}
theorem xi_zipL (ha : XE g l M G a (tLs ts)) (hb : XE g l M G b (tLs us)) (hm : g.mg "zip" = none) (hg : l.sc.names.lookup ("zip" : Str) = some .globalImplicit := by rfl) (hs : ∀ env, starEach [a, b] env = (false, eval a env) :: starEach [b] env := by intro _; rfl) (hs2 : ∀ env, starEach [b] env = (false, eval b env) :: starEach [] env := by intro _; rfl)
    (hpl : ∀ env, (backTo pos (starEach [b] env)).any (·.1) = false := by intro _; rfl) : XI g l M G (.Tuple elts kk tpos) (.Call (.Name "zip" p) [a, b] [] pos) (zipT ts us) := fun X A =>
  convI (RZ.pi_zipA (A.gl hg) (by rw [A.mg]; exact hm) (xa_cons ha (xa_cons hb xa_nil hs2) hs X A) (hs _) (hpl _)) fun σ H R ⟨S, pr, q⟩ => tA.step pr fun vs S1 H1 q1 p1 k1 => by
    obtain ⟨v, w, rfl, ⟨c, xs, rfl, c1, c2⟩, ⟨d, ys, rfl, d1, d2⟩⟩ := k1.two
    exact ⟨c, d, xs, ys, rfl, .inl ⟨SqL.of (p1.1 _ _ c1), SqL.of (p1.1 _ _ d1), q _ S1 H1 q1 (walk_zipL c1 c2 d1 d2)⟩⟩
theorem xi_zipT (ha : XE g l M G a (tTu ts)) (hb : XE g l M G b (tTu us)) (hm : g.mg "zip" = none) (hg : l.sc.names.lookup ("zip" : Str) = some .globalImplicit := by rfl) (hs : ∀ env, starEach [a, b] env = (false, eval a env) :: starEach [b] env := by intro _; rfl) (hs2 : ∀ env, starEach [b] env = (false, eval b env) :: starEach [] env := by intro _; rfl)
    (hpl : ∀ env, (backTo pos (starEach [b] env)).any (·.1) = false := by intro _; rfl) : XI g l M G (.Tuple elts kk tpos) (.Call (.Name "zip" p) [a, b] [] pos) (zipT ts us) := fun X A =>
  convI (RZ.pi_zipA (A.gl hg) (by rw [A.mg]; exact hm) (xa_cons ha (xa_cons hb xa_nil hs2) hs X A) (hs _) (hpl _)) fun σ H R ⟨S, pr, q⟩ => tA.step pr fun vs S1 H1 q1 p1 k1 => by
    obtain ⟨v, w, rfl, ⟨c, xs, rfl, c1, c2⟩, ⟨d, ys, rfl, d1, d2⟩⟩ := k1.two
    exact ⟨c, d, xs, ys, rfl, .inr ⟨SqT.of (p1.1 _ _ c1), SqT.of (p1.1 _ _ d1), q _ S1 H1 q1 (walk_zipT c1 c2 d1 d2)⟩⟩
theorem xi_enu (ha : XE g l M G a (tLs ts)) (hm : g.mg "enumerate" = none) (hg : l.sc.names.lookup ("enumerate" : Str) = some .globalImplicit := by rfl) (hs : ∀ env, starEach [a] env = [(false, eval a env)] := by intro _; rfl) : XI g l M G (.Tuple elts kk tpos) (.Call (.Name "enumerate" p) [a] [] pos) (enuT ts) := fun X A =>
  convI (pi_enum (A.gl hg) (by rw [A.mg]; exact hm) (xa_cons ha xa_nil hs X A) (hs _)) fun σ H R ⟨S, pr, q⟩ => tA.step pr fun vs S1 H1 q1 p1 k1 => by
    obtain ⟨v, rfl, ⟨c, xs, rfl, c1, c2⟩⟩ := k1.one
    exact ⟨c, xs, rfl, SqL.of (p1.1 _ _ c1), q _ S1 H1 q1 (walk_enu c1 c2)⟩
end

/-! ### targets -/
/-- v is stored: a name's slot; a tuple's items, one by one -/
def tG (M : Md) (G : List Slot) (vs : List Nat) (t : Ty) (G' : List Slot) : TG := fun v σ H Q => ∃ S, Pre M G σ S H ∧ t.is S v ∧ ∀ σ', Pre M G' σ' S H → (∀ j, j ∉ vs → σ'[j]? = σ[j]?) → σ'.length = σ.length → Q σ' H
def XG (g : Gc) (l : Lc) (M : Md) (G : List Slot) (vs : List Nat) (tg : Expr) (t : Ty) (G' : List Slot) : Prop := ∀ X, At g l X → PG X tg (tG M G vs t G')
theorem convG {X : Cx} {e : Expr} {t u : TG} (p : PG X e t) (c : ∀ v σ H Q, u v σ H Q → t v σ H Q) : PG X e u := ⟨fun pins s σ H v w Q I r h => p.run pins s σ H v w Q I r (c v σ H Q h)⟩
/-- a slot is written with a value of a type -/
theorem Env.put {M : Md} {S H : Hp} {σ : St} {G : List Slot} (e : Env M S H σ G) (i : Nat) {v : V} {t : Ty} (h : t.is S v) : Env M S H (σ.set i (some v)) (G.set i (.ty t)) where
  len := by rw [List.length_set, List.length_set]; exact e.len
  at_ := fun j s hj => by
    by_cases q : i = j
    · subst q
      have hl : i < G.length := by
        obtain ⟨k, _⟩ := List.getElem?_eq_some_iff.mp hj
        rw [List.length_set] at k
        exact k
      rw [List.getElem?_set_self hl] at hj
      cases hj
      exact ⟨some v, List.getElem?_set_self (by rw [← e.len]; exact hl), v, rfl, h⟩
    · rw [List.getElem?_set_ne q] at hj ⊢
      exact e.at_ j s hj
  dis := fun j k p c q d hj hk n => by
    have key : ∀ {j : Nat} {p : Addr} {c : Cell}, (G.set i (.ty t))[j]? = some (.own p c) → G[j]? = some (.own p c) := fun {j p c} hj => by
      by_cases q : i = j
      · subst q
        have hl : i < G.length := by
          obtain ⟨k, _⟩ := List.getElem?_eq_some_iff.mp hj
          rw [List.length_set] at k
          exact k
        rw [List.getElem?_set_self hl] at hj
        cases hj
      · rw [List.getElem?_set_ne q] at hj
        exact hj
    exact e.dis j k p c q d (key hj) (key hk) n
theorem set_out {σ : St} {i j : Nat} {x : Option V} {vs : List Nat} (hi : i ∈ vs) (hj : j ∉ vs) : (σ.set i x)[j]? = σ[j]? := List.getElem?_set_ne fun q => hj (by rw [← q]; exact hi)
section
variable {g : Gc} {l : Lc} {M : Md} {G G1 : List Slot} {pos p tpos : Pos} {e a b tg : Expr} {es elts : List Expr} {t u r : Ty} {ts us : List Ty} {kk : Nat} {vs : List Nat}
theorem At.loc {X : Cx} (A : At g l X) {x : Str} (h : Loc l.sc x) : Loc X.env.scope x := by rw [A.sc]; exact h
theorem At.sto {X : Cx} (A : At g l X) {x : Str} (h : l.fn x = true ∨ l.sc.names.lookup x = some .local) : X.fn x = true ∨ X.env.scope.names.lookup x = some .local := by
  rcases h with h | h
  · exact .inl (A.fn x h)
  · exact .inr (by rw [A.sc]; exact h)
theorem pg_at {X : Cx} (A : At g l X) {i : Nat} {x : Str} (hN : l.N[i]? = some x) (hx : Loc l.sc x) (hf : l.fn x = true ∨ l.sc.names.lookup x = some .local) : PG X (.Name x pos) (gName i) :=
  pg_name (by rw [A.N]; exact A.nd) (by rw [A.N]; exact hN) (A.loc hx) (A.sto hf)
theorem xg_name (i : Nat) {x : Str} (hi : i ∈ vs := by decide) (hN : l.N[i]? = some x := by rfl) (hx : Loc l.sc x := by first | exact Or.inl rfl | exact Or.inr rfl) (hf : l.fn x = true ∨ l.sc.names.lookup x = some .local := by first | exact Or.inl rfl | exact Or.inr rfl) :
    XG g l M G vs (.Name x pos) t (G.set i (.ty t)) := fun X A => convG (pg_at A hN hx hf) fun v σ H Q ⟨S, pr, h, q⟩ => q _ ⟨pr.1, pr.2.1, pr.2.2.put i h⟩ (fun j hj => set_out hi hj) (by rw [List.length_set])
/-- a, b = a tuple -/
def tGs (M : Md) (G : List Slot) (vs : List Nat) (ts : List Ty) (G' : List Slot) : TGs := fun xs σ H Q => ∃ S, Pre M G σ S H ∧ Tys S ts xs ∧ ∀ σ', Pre M G' σ' S H → (∀ j, j ∉ vs → σ'[j]? = σ[j]?) → σ'.length = σ.length → Q σ' H
def XGs (g : Gc) (l : Lc) (M : Md) (G : List Slot) (vs : List Nat) (tg : List Expr) (ts : List Ty) (G' : List Slot) : Prop := ∀ X, At g l X → PGs X tg (tGs M G vs ts G')
theorem convGs {X : Cx} {e : List Expr} {t u : TGs} (p : PGs X e t) (c : ∀ v σ H Q, u v σ H Q → t v σ H Q) : PGs X e u := ⟨fun pins s σ H v w Q I r h => p.run pins s σ H v w Q I r (c v σ H Q h)⟩
theorem xgs_nil : XGs g l M G vs [] [] G := fun X A => convGs pgs_nil fun xs σ H Q ⟨S, pr, h, q⟩ => by
  cases h
  exact ⟨rfl, q σ pr (fun _ _ => rfl) rfl⟩
theorem xgs_cons (h : XG g l M G vs e t G1) (k : XGs g l M G1 vs es ts r') (hs : ∀ env, (assignEach (e :: es) env).map (·.2) = assign e env :: (assignEach es env).map (·.2) := by intro _; rfl) : XGs g l M G vs (e :: es) (t :: ts) r' := fun X A =>
  convGs (pgs_cons (h X A) (k X A) (hs _)) fun xs σ H Q ⟨S, pr, hv, q⟩ => by
    cases hv with
    | cons h1 h2 =>
      exact ⟨_, _, rfl, S, pr, h1, fun σ1 p1 n1 l1 => ⟨S, p1, h2, fun σ2 p2 n2 l2 => q σ2 p2 (fun j hj => (n2 j hj).trans (n1 j hj)) (l2.trans l1)⟩⟩
theorem xg_tup (h : XGs g l M G vs es ts G1) (hn : ∀ env, (assignEach es env).length = ts.length := by intro _; rfl) (hst : ∀ env, (assignEach es env).findIdx? (·.1) = none := by intro _; rfl) : XG g l M G vs (.Tuple es kk pos) (tTu ts) G1 := fun X A =>
  convG (pg_tup (n := ts.length) A.calm (h X A) (hn _) (hst _)) fun v σ H Q ⟨S, pr, ⟨a, xs, e1, h1, h2⟩, q⟩ => ⟨a, xs, e1, SqT.of (pr.1 _ _ h1), by rw [h2.len], S, pr, h2, q⟩
end

/-! ### comprehensions' blocks -/
def wipeG (G : List Slot) : List Nat → List Slot
  | [] => G
  | v :: vs => (wipeG G vs).set v .unk
theorem Env.wiped {M : Md} {S H : Hp} {σ : St} {G : List Slot} (e : Env M S H σ G) : ∀ vs, Env M S H (wipe σ vs) (wipeG G vs)
  | [] => e
  | v :: vs => by
    have ih := e.wiped vs
    have key : ∀ {j : Nat} {p : Addr} {c : Cell}, ((wipeG G vs).set v .unk)[j]? = some (.own p c) → (wipeG G vs)[j]? = some (.own p c) ∧ v ≠ j := fun {j p c} hj => by
      by_cases q : v = j
      · subst q
        have hl : v < (wipeG G vs).length := by
          obtain ⟨k, _⟩ := List.getElem?_eq_some_iff.mp hj
          rw [List.length_set] at k
          exact k
        rw [List.getElem?_set_self hl] at hj
        cases hj
      · rw [List.getElem?_set_ne q] at hj
        exact ⟨hj, q⟩
    refine ⟨?_, fun j s hj => ?_, fun j k p c q d hj hk n => ih.dis j k p c q d (key hj).1 (key hk).1 n⟩
    · show ((wipeG G vs).set v .unk).length = ((wipe σ vs).set v none).length
      rw [List.length_set, List.length_set]
      exact ih.len
    · show ∃ x, ((wipe σ vs).set v none)[j]? = some x ∧ _
      have hj : ((wipeG G vs).set v .unk)[j]? = some s := hj
      by_cases q : v = j
      · subst q
        have hl : v < (wipeG G vs).length := by
          obtain ⟨k, _⟩ := List.getElem?_eq_some_iff.mp hj
          rw [List.length_set] at k
          exact k
        rw [List.getElem?_set_self hl] at hj
        cases hj
        exact ⟨none, List.getElem?_set_self (by rw [← ih.len]; exact hl), trivial⟩
      · rw [List.getElem?_set_ne q] at hj
        obtain ⟨x, h1, h2⟩ := ih.at_ j s hj
        exact ⟨x, by rw [List.getElem?_set_ne q]; exact h1, h2⟩
theorem wipe_eq {σ σ' : St} : ∀ {vs : List Nat}, (∀ j, j ∉ vs → σ'[j]? = σ[j]?) → σ'.length = σ.length → wipe σ' vs = wipe σ vs := fun {vs} h hl => by
  apply List.ext_getElem?
  intro j
  by_cases hj : j ∈ vs
  · have key : ∀ (τ : St) (vs : List Nat), j ∈ vs → (wipe τ vs)[j]? = if j < τ.length then some none else none := fun τ vs => by
      induction vs with
      | nil => intro h; simp at h
      | cons v vs ih =>
        intro h
        show ((wipe τ vs).set v none)[j]? = _
        by_cases q : v = j
        · subst q
          rw [List.getElem?_set_self']
          by_cases k : v < τ.length
          · rw [if_pos k, List.getElem?_eq_getElem (by rw [wipe_length]; exact k)]; rfl
          · rw [if_neg k, List.getElem?_eq_none (by rw [wipe_length]; omega)]; rfl
        · rw [List.getElem?_set_ne q]
          exact ih ((List.mem_cons.mp h).resolve_left fun e => q e.symm)
    rw [key σ' vs hj, key σ vs hj, hl]
  · rw [wipe_out hj, wipe_out hj]
    exact h j hj
def Lc.blk (l : Lc) (scope : Scope) : Lc := { l with sc := relS scope l.sc, fn := fun x => scope.names.lookup x == some .cell }
theorem At.blk {g : Gc} {l : Lc} {X : Cx} (A : At g l X) (s : Shared) (H : Hp) (scope : Scope) (C : Addr) (cl : List (Str × Addr)) (fp : List Addr) (hk : scope.kind = .function) : At g (l.blk scope) (X.blk s H scope (compEnvC scope cl C X.env) fp) :=
  ⟨A.prog, A.w, A.K, A.mg, A.base, A.N, by show relS scope X.env.scope = relS scope l.sc; rw [A.sc], A.room, A.calm, A.nd, (fun x z => z), rfl, hk⟩

/-- which turns are kept -/
def Picks (n : Nat) (B : Nat → Bool → Prop) (f : Nat → Bool) : Prop := ∀ i, i < n → B i (f i)
def picked (n : Nat) (f : Nat → Bool) (u : Nat → Ty) : List Ty := ((List.range n).filter f).map u
theorem picked_yes {n : Nat} {f : Nat → Bool} {u : Nat → Ty} (h : f n = true) : picked (n + 1) f u = picked n f u ++ [u n] := by
  unfold picked
  rw [List.range_succ, List.filter_append, List.map_append]
  simp [h]
theorem picked_no {n : Nat} {f : Nat → Bool} {u : Nat → Ty} (h : f n = false) : picked (n + 1) f u = picked n f u := by
  unfold picked
  rw [List.range_succ, List.filter_append, List.map_append]
  simp [h]
theorem picked_len {n : Nat} {f : Nat → Bool} {u : Nat → Ty} : (picked n f u).length ≤ n := by
  unfold picked
  rw [List.length_map]
  have h := List.length_filter_le f (List.range n)
  rw [List.length_range] at h
  exact h
theorem picked_congr {n : Nat} {f f' : Nat → Bool} {u : Nat → Ty} (h : ∀ i, i < n → f i = f' i) : picked n f u = picked n f' u := by
  unfold picked
  congr 1
  apply List.filter_congr
  intro i hi
  exact h i (List.mem_range.mp hi)
section
variable {g : Gc} {l : Lc} {M : Md} {G : List Slot} {pos : Pos} {tg iter elt : Expr} {ifs : List Expr} {scope : Scope} {own : List (Str × Nat)} {ts : List Ty}
/-- a block's tests -/
def XTs (g : Gc) (l : Lc) (M : Md) (G : List Slot) (ifs : List Expr) (b : Bool → Prop) : Prop := ∀ X, At g l X → PTs X ifs (tT M G b)
theorem convTs {X : Cx} {e : List Expr} {t u : TT} (p : PTs X e t) (c : ∀ σ H Q, u σ H Q → t σ H Q) : PTs X e u := ⟨fun pins s σ H Q I h => p.run pins s σ H Q I (c σ H Q h)⟩
theorem xts_nil : XTs g l M G [] (fun b => b = true) := fun X A => convTs pts_nil fun σ H Q ⟨S, pr, q⟩ => q true S H (Post.of pr.2.1 (Gr.refl pr.1)) rfl
theorem xts_one {c : Expr} {b : Bool → Prop} (h : XT g l M G c b) : XTs g l M G [c] b := fun X A => pts_one (h X A)
/-- the readings of a block's parts, at whichever turn -/
def uG (M : Md) (G : List Slot) (ts : List Ty) (vs : List Nat) (G1 : Nat → List Slot) : TG := fun v σ H Q => ∃ i t, ts[i]? = some t ∧ tG M (wipeG G vs) vs t (G1 i) v σ H Q
def uT (M : Md) (ts : List Ty) (G1 : Nat → List Slot) (B : Nat → Bool → Prop) : TT := fun σ H Q => ∃ i t, ts[i]? = some t ∧ tT M (G1 i) (B i) σ H Q
def uE (M : Md) (ts : List Ty) (G1 : Nat → List Slot) (B : Nat → Bool → Prop) (u : Nat → Ty) : TE := fun σ H Q => ∃ i t, ts[i]? = some t ∧ B i true ∧ tE M (G1 i) (u i) σ H Q
theorem lc_read {vs : List Nat} {G1 : Nat → List Slot} {B : Nat → Bool → Prop} {u : Nat → Ty} (hz : ts.length ≤ 100000) {σ : L2.St} {H : Hp} {Q : VK} (h : tE M G (tEx (Picks ts.length B) fun f => tLs (picked ts.length f u)) σ H Q) :
    tLc (tI M G ts) (uG M G ts vs G1) (uT M ts G1 B) (uE M ts G1 B u) vs σ H Q := by
  obtain ⟨S, pr, q⟩ := h
  refine ⟨S, pr, fun J S1 H1 q1 wk => ?_⟩
  intro D hD
  have p1 : Pre M G σ S1 H1 := pr.next q1
  have hDS : S1 D = none := p1.1.none hD
  have hch : ¬ M.ch D := M.fresh p1.2.1 hD
  have hD0 : H D = none := by
    cases e : H D with
    | none => rfl
    | some o => obtain ⟨o', e', _⟩ := q1.1.al D o e; rw [hD] at e'; cases e'
  refine ⟨fun i m H' => m = ts.length - i ∧ i ≤ ts.length ∧ ∃ S' f acc, Gr M.ch S1 H1 S' H' ∧ M.inv S' H' ∧ S' D = none ∧ H' D = some (.lst acc) ∧ Picks i B f ∧ Tys S' (picked i f u) acc, ⟨ts.length, rfl, Nat.zero_le _, S1, fun _ => true, [], ?_, ?_, hDS, upd_same, fun i hi => absurd hi (Nat.not_lt_zero i), .nil⟩, ?_⟩
  · exact (Gr.lay p1.1 hD).weak
  · exact M.stabW hch (fun q => by rw [hD]; exact fun z => nomatch z) p1.2.1
  rintro i m H2 ⟨rfl, hil, S2, f, acc, g2, i2, s2, h2, pk, ty⟩
  have p2 : Pre M G σ S2 H2 := ⟨g2.sh, i2, p1.2.2.grow g2⟩
  by_cases hlt : i < ts.length
  · refine .inr ?_
    have hit : ts[i]? = some ts[i] := List.getElem?_eq_getElem hlt
    obtain ⟨go, yl⟩ := wk.go S2 H2 i _ g2.ss g2.sh hit
    refine ⟨go, fun H' => i + 1 ≤ ts.length ∧ ∃ S' f acc, Gr M.ch S1 H1 S' H' ∧ M.inv S' H' ∧ S' D = none ∧ H' D = some (.lst acc) ∧ Picks (i + 1) B f ∧ Tys S' (picked (i + 1) f u) acc, fun H' ⟨k1, k2⟩ => ⟨ts.length - (i + 1), by omega, rfl, k1, k2⟩, fun x H3 hy => ?_⟩
    obtain ⟨S3, g3, hx⟩ := yl x H3 hy
    have q3 : Post M S2 H2 S3 H3 := Post.of i2 g3
    have p3 := p2.next q3
    refine ⟨i, _, hit, S3, ⟨p3.1, p3.2.1, p3.2.2.wiped _⟩, hx, fun σ4 p4 n4 l4 => ⟨?_, i, _, hit, S3, p4, fun b S5 H5 q5 hb => ?_⟩⟩
    · refine wipe_eq (fun j hj => ?_) (l4.trans (wipe_length ..))
      rw [n4 j hj, wipe_out hj]
    · have g5 : Gr M.ch S1 H1 S5 H5 := g2.trans (q3.1.trans q5.1)
      have s5 : S5 D = none := by
        have e3 := (g3.hh D _ h2 id)
        rw [q5.1.old D _ e3 trivial, g3.old D _ h2 trivial, s2]
      have h5 : H5 D = some (.lst acc) := q5.1.hh D _ (g3.hh D _ h2 id) hch
      have pk' : Picks (i + 1) B (fun j => if j = i then b else f j) := fun j hj => by
        show B j (if j = i then b else f j)
        by_cases e : j = i
        · rw [if_pos e, e]; exact hb
        · rw [if_neg e]; exact pk j (by omega)
      have ec : picked i (fun j => if j = i then b else f j) u = picked i f u := picked_congr fun j hj => if_neg (by omega)
      cases b with
      | false =>
        refine iteF ⟨by omega, S5, _, acc, g5, q5.2, s5, h5, pk', ?_⟩
        rw [picked_no (by show (if i = i then false else f i) = false; rw [if_pos rfl]), ec]
        exact ty.mono (g3.ss.comp q5.1.ss)
      | true =>
        refine iteT ⟨i, _, hit, hb, S5, p4.next q5, fun y S6 H6 q6 hy => ⟨acc, q6.1.hh D _ h5 hch, ?_, ?_⟩⟩
        · have k1 := ty.len
          have k2 := picked_len (n := i) (f := f) (u := u)
          have k3 : (100000 : Nat) < sizeLine := by decide
          omega
        · refine ⟨by omega, S6, _, acc ++ [y], (g5.trans q6.1).write hD ?_, M.stabW hch (fun q => by rw [q6.1.hh D _ h5 hch]; unfold LamX.CodeO; exact fun z => nomatch z) q6.2, ?_, upd_same, pk', ?_⟩
          · rw [q6.1.old D _ h5 trivial, s5]
          · rw [q6.1.old D _ h5 trivial, s5]
          · rw [picked_yes (by show (if i = i then true else f i) = true; rw [if_pos rfl]), ec]
            exact (ty.mono ((g3.ss.comp q5.1.ss).comp q6.1.ss)).snoc hy
  · have e : i = ts.length := by omega
    subst e
    refine .inl ⟨wk.stop S2 H2 g2.ss g2.sh, ?_⟩
    exact q _ _ H2 ⟨(q1.1.trans g2).freeze hD0 s2 h2, M.stabF s2 hch i2⟩ ⟨f, pk, D, acc, rfl, upd_same, ty.mono fun a o e => by
      rw [upd_ne (ne_of_none e s2)]
      exact e⟩
/-- [elt for tg in iter if ..] -/
theorem x_lc {vs : List Nat} {G1 : Nat → List Slot} {B : Nat → Bool → Prop} {u : Nat → Ty} (hvs : vs = own.map (·.2)) (hi : XI g l M G tg iter ts) (ok : BlkOk l.N l.sc scope own) (hz : ts.length ≤ 100000)
    (hg : ∀ i t, ts[i]? = some t → XG g (l.blk scope) M (wipeG G vs) vs tg t (G1 i)) (ht : ∀ i t, ts[i]? = some t → XTs g (l.blk scope) M (G1 i) ifs (B i)) (he : ∀ i t, ts[i]? = some t → B i true → XE g (l.blk scope) M (G1 i) elt (u i))
    (hs : ∀ env x, foldedSetIterable iter env x = pure x := by intro _ _; rfl) : XE g l M G (.ListComp elt [⟨tg, iter, ifs, 0⟩] scope pos) (tEx (Picks ts.length B) fun f => tLs (picked ts.length f u)) := fun X A => by
  subst hvs
  exact conv (pe_lc (own := own) (g := uG M G ts _ G1) (tt := uT M ts G1 B) (te := uE M ts G1 B u) A.calm (by rw [A.N]; exact A.nd) (hi X A) (by rw [A.N, A.sc]; exact ok)
    (fun s H C cl fp => ⟨fun pins s σ H v w Q I r ⟨i, t, hit, h⟩ => (hg i t hit _ (A.blk _ _ _ _ _ _ ok.kind)).run pins s σ H v w Q I r h⟩)
    (fun s H C cl fp => ⟨fun pins s σ H Q I ⟨i, t, hit, h⟩ => (ht i t hit _ (A.blk _ _ _ _ _ _ ok.kind)).run pins s σ H Q I h⟩)
    (fun s H C cl fp => ⟨fun pins s σ H Q I ⟨i, t, hit, hb, h⟩ => (he i t hit hb _ (A.blk _ _ _ _ _ _ ok.kind)).run pins s σ H Q I h⟩) (hs _)) fun σ H Q h => lc_read hz h
end

/-! ### statements -/
abbrev Pred := L2.St → Hp → Prop
/-- S_0, H_0: the def's entry; B: what was frozen before -/
structure Ent (M : Md) (S_0 H_0 S H : Hp) : Prop where
  gr : Gr M.ch S_0 H_0 S H
  dm : ∀ a, M.dom a ↔ H_0 a ≠ none
theorem Ent.trans {M : Md} {S_0 H_0 S H S' H' : Hp} (e : Ent M S_0 H_0 S H) (g : Gr M.ch S H S' H') : Ent M S_0 H_0 S' H' := ⟨e.gr.trans g, e.dm⟩
def Ct (M : Md) (B S_0 H_0 : Hp) (G : List Slot) : Pred := fun σ H => ∃ S, Ex B S ∧ Ent M S_0 H_0 S H ∧ M.inv S H ∧ Env M S H σ G
structure Le (D D' : Ends) : Prop where
  nx : ∀ σ H, D.nx σ H → D'.nx σ H
  rt : ∀ v H, D.rt v H → D'.rt v H
  bk : ∀ σ H, D.bk σ H → D'.bk σ H
  ct : ∀ σ H, D.ct σ H → D'.ct σ H
theorem Le.refl (D : Ends) : Le D D := ⟨fun _ _ h => h, fun _ _ h => h, fun _ _ h => h, fun _ _ h => h⟩
def tS (pre : Pred) (D : Ends) : TS := fun D' σ H => pre σ H ∧ Le D D'
def XS (g : Gc) (l : Lc) (pre : Pred) (st : Stmt) (D : Ends) : Prop := ∀ X, At g l X → PS X st (tS pre D)
def XB (g : Gc) (l : Lc) (pre : Pred) (b : List Stmt) (D : Ends) : Prop := ∀ X, At g l X → PSs X b (tS pre D)
theorem convS {X : Cx} {st : Stmt} {t u : TS} (p : PS X st t) (c : ∀ D σ H, u D σ H → t D σ H) : PS X st u := ⟨fun pins s σ H D I h => p.run pins s σ H D I (c D σ H h)⟩
theorem convB {X : Cx} {st : List Stmt} {t u : TS} (p : PSs X st t) (c : ∀ D σ H, u D σ H → t D σ H) : PSs X st u := ⟨fun pins s σ H D I h => p.run pins s σ H D I (c D σ H h)⟩
section
variable {g : Gc} {l : Lc} {M : Md} {B S_0 H_0 : Hp} {G G1 : List Slot} {pos p tpos : Pos} {e a b tg iter : Expr} {es elts : List Expr} {t u r : Ty} {ts us : List Ty} {kk : Nat} {vs : List Nat} {st : Stmt} {rest body orelse : List Stmt} {pre mid : Pred} {D : Ends}
theorem xb_nil (h : ∀ σ H, pre σ H → D.nx σ H) : XB g l pre [] D := fun X A => convB pss_nil fun D' σ H ⟨p, le⟩ => le.nx _ _ (h σ H p)
theorem xb_cons (mid : Pred) (h : XS g l pre st { D with nx := mid }) (k : XB g l mid rest D) : XB g l pre (st :: rest) D := fun X A =>
  convB (pss_cons (h X A) (k X A)) fun D' σ H ⟨p, le⟩ => ⟨p, fun σ H m => ⟨m, le⟩, le.rt, le.bk, le.ct⟩
theorem xb_one (h : XS g l pre st D) : XB g l pre [st] D := fun X A => pss_one (h X A)
theorem xb_pre {pre' : Pred} (h : XB g l pre rest D) (k : ∀ σ H, pre' σ H → pre σ H) : XB g l pre' rest D := fun X A => convB (h X A) fun D' σ H ⟨p, le⟩ => ⟨k σ H p, le⟩
theorem xb_ex {ι : Type} {pr : ι → Pred} (h : ∀ i, XB g l (pr i) rest D) : XB g l (fun σ H => ∃ i, pr i σ H) rest D := fun X A => ⟨fun pins s σ H D' I ⟨⟨i, p⟩, le⟩ => (h i X A).run pins s σ H D' I ⟨p, le⟩⟩
theorem xb_never (h : ∀ σ H, ¬ pre σ H) : XB g l pre rest D := fun X A => convB pss_never fun D' σ H ⟨p, le⟩ => h σ H p
theorem Ct.get {σ : L2.St} {H : Hp} (h : Ct M B S_0 H_0 G σ H) : ∃ S, Ex B S ∧ Ent M S_0 H_0 S H ∧ Pre M G σ S H := let ⟨S, h1, h2, h3, h4⟩ := h; ⟨S, h1, h2, h2.gr.sh, h3, h4⟩
theorem Ct.of {σ : L2.St} {S H : Hp} (h1 : Ex B S) (h2 : Ent M S_0 H_0 S H) (p : Pre M G σ S H) : Ct M B S_0 H_0 G σ H := ⟨S, h1, h2, p.2.1, p.2.2⟩
/-- target = e -/
theorem xs_asg (he : XE g l M G e t) (hg : XG g l M G vs tg t G1) (hd : ∀ σ H, Ct M B S_0 H_0 G1 σ H → D.nx σ H) (hs : ∀ env, swapsWithSole [tg] e pos.line env = pure false := by intro _; rfl) (hw : ∀ env, swappedStores [tg] e env = pure none := by intro _; rfl)
    (h1 : ∀ env, (assignEach [tg] env).map (·.2) = [assign tg env] := by intro _; rfl) : XS g l (Ct M B S_0 H_0 G) (.Assign [tg] e pos) D := fun X A =>
  convS (ps_asg (he X A) (hg X A) (hs _) (hw _) (h1 _)) fun D' σ H ⟨c, le⟩ => by
    obtain ⟨S, c1, c2, pr⟩ := c.get
    exact tE.step pr fun v S1 H1 q1 p1 hv => ⟨S1, p1, hv, fun σ' p2 _ _ => le.nx _ _ (hd _ _ (.of (c1.comp q1.1.ss) (c2.trans q1.1) p2))⟩
theorem xb_asg (he : XE g l M G e t) (hg : XG g l M G vs tg t G1) (k : XB g l (Ct M B S_0 H_0 G1) rest D) (hs : ∀ env, swapsWithSole [tg] e pos.line env = pure false := by intro _; rfl) (hw : ∀ env, swappedStores [tg] e env = pure none := by intro _; rfl)
    (h1 : ∀ env, (assignEach [tg] env).map (·.2) = [assign tg env] := by intro _; rfl) : XB g l (Ct M B S_0 H_0 G) (.Assign [tg] e pos :: rest) D := xb_cons _ (xs_asg he hg (fun _ _ h => h) hs hw h1) k
/-- name = e -/
theorem xb_set (i : Nat) {x : Str} (he : XE g l M G e t) (k : XB g l (Ct M B S_0 H_0 (G.set i (.ty t))) rest D) (hN : l.N[i]? = some x := by rfl) (hx : Loc l.sc x := by first | exact Or.inl rfl | exact Or.inr rfl) (hf : l.fn x = true ∨ l.sc.names.lookup x = some .local := by first | exact Or.inl rfl | exact Or.inr rfl)
    (hs : ∀ env, swapsWith e (some (.Name x p)) pos.line env = pure false := by intro _; rfl) : XB g l (Ct M B S_0 H_0 G) (.Assign [.Name x p] e pos :: rest) D := xb_cons (Ct M B S_0 H_0 (G.set i (.ty t))) (fun X A =>
  convS (ps_set (by rw [A.N]; exact A.nd) (by rw [A.N]; exact hN) (A.loc hx) (he X A) (hs _) (A.sto hf)) fun D' σ H ⟨c, le⟩ => by
    obtain ⟨S, c1, c2, pr⟩ := c.get
    exact tE.step pr fun v S1 H1 q1 p1 hv => le.nx _ _ (.of (c1.comp q1.1.ss) (c2.trans q1.1) ⟨p1.1, p1.2.1, p1.2.2.put i hv⟩)) k
/-- a slot of one of some types: told which -/
theorem xb_open {ι : Type} {q : ι → Prop} {f : ι → Ty} (i : Nat) (hG : G[i]? = some (.ty (tEx q f))) (k : ∀ j, q j → XB g l (Ct M B S_0 H_0 (G.set i (.ty (f j)))) rest D) : XB g l (Ct M B S_0 H_0 G) rest D := by
  refine xb_pre (pre := fun σ H => ∃ j : { j // q j }, Ct M B S_0 H_0 (G.set i (.ty (f j.1))) σ H) (xb_ex fun j => k j.1 j.2) fun σ H c => ?_
  obtain ⟨S, c1, c2, pr⟩ := c.get
  obtain ⟨x, h1, v, h2, j, h3, h4⟩ := pr.2.2.at_ i _ hG
  refine ⟨⟨j, h3⟩, .of c1 c2 ⟨pr.1, pr.2.1, ?_⟩⟩
  have e := pr.2.2.put i (v := v) (t := f j) h4
  have es : σ.set i (some v) = σ := by
    subst h2
    apply List.ext_getElem?
    intro m
    by_cases z : i = m
    · subst z
      obtain ⟨hl, _⟩ := List.getElem?_eq_some_iff.mp h1
      rw [List.getElem?_set_self hl, h1]
    · rw [List.getElem?_set_ne z]
  rw [es] at e
  exact e
theorem xb_setI {ι : Type} {q : ι → Prop} {f : ι → Ty} (i : Nat) {x : Str} (he : XE g l M G e (tEx q f)) (k : ∀ j, q j → XB g l (Ct M B S_0 H_0 (G.set i (.ty (f j)))) rest D) (hi : i < G.length := by exact of_decide_eq_true rfl) (hN : l.N[i]? = some x := by rfl) (hx : Loc l.sc x := by first | exact Or.inl rfl | exact Or.inr rfl) (hf : l.fn x = true ∨ l.sc.names.lookup x = some .local := by first | exact Or.inl rfl | exact Or.inr rfl)
    (hs : ∀ env, swapsWith e (some (.Name x p)) pos.line env = pure false := by intro _; rfl) : XB g l (Ct M B S_0 H_0 G) (.Assign [.Name x p] e pos :: rest) D :=
  xb_set i he (xb_open i (List.getElem?_set_self hi) fun j hj => by rw [List.set_set]; exact k j hj) hN hx hf hs
/-- return e -/
theorem xs_ret (he : XE g l M G e t) (k : ∀ v S H, Ex B S → Gr M.ch S_0 H_0 S H → M.inv S H → t.is S v → D.rt v H) : XS g l (Ct M B S_0 H_0 G) (.Return (some e) pos) D := fun X A =>
  convS (ps_ret (he X A)) fun D' σ H ⟨c, le⟩ => by
    obtain ⟨S, c1, c2, pr⟩ := c.get
    exact tE.step pr fun v S1 H1 q1 p1 hv => le.rt _ _ (k v S1 H1 (c1.comp q1.1.ss) (c2.trans q1.1).gr q1.2 hv)
theorem xb_ret (he : XE g l M G e t) (k : ∀ v S H, Ex B S → Gr M.ch S_0 H_0 S H → M.inv S H → t.is S v → D.rt v H) : XB g l (Ct M B S_0 H_0 G) (.Return (some e) pos :: rest) D :=
  xb_cons (fun _ _ => False) (xs_ret he k) (xb_never fun _ _ h => h)
/-- if -/
theorem xs_if {c : Bool → Prop} (hc : XT g l M G e c) (h1 : c true → XB g l (Ct M B S_0 H_0 G) body D) (h2 : c false → XB g l (Ct M B S_0 H_0 G) orelse D) : XS g l (Ct M B S_0 H_0 G) (.If e body orelse pos) D := fun X A => by
  refine ⟨fun pins s σ H D' I ⟨ct, le⟩ => ?_⟩
  obtain ⟨S, c1, c2, pr⟩ := ct.get
  refine wpAny_If (thn ((hc X A).run pins s σ H (fun d H1 => c d ∧ Ct M B S_0 H_0 G σ H1) I ⟨S, pr, fun d S1 H1 q1 hd => ⟨hd, .of (c1.comp q1.1.ss) (c2.trans q1.1) (pr.next q1)⟩⟩) fun d s1 ⟨H1, I1, hd, ct1⟩ => ?_)
  cases d with
  | true => exact (h1 hd X A).run pins s1 σ H1 D' I1 ⟨ct1, le⟩
  | false => exact (h2 hd X A).run pins s1 σ H1 D' I1 ⟨ct1, le⟩
theorem xb_if {c : Bool → Prop} (mid : Pred) (hc : XT g l M G e c) (h1 : c true → XB g l (Ct M B S_0 H_0 G) body { D with nx := mid }) (h2 : c false → XB g l (Ct M B S_0 H_0 G) orelse { D with nx := mid }) (k : XB g l mid rest D) : XB g l (Ct M B S_0 H_0 G) (.If e body orelse pos :: rest) D :=
  xb_cons mid (xs_if hc h1 h2) k
/-- if t: a block that does not go on; the rest -/
theorem xb_when {c : Bool → Prop} (hc : XT g l M G e c) (h1 : c true → XB g l (Ct M B S_0 H_0 G) body { D with nx := fun _ _ => False }) (k : c false → XB g l (Ct M B S_0 H_0 G) rest D) : XB g l (Ct M B S_0 H_0 G) (.If e body [] pos :: rest) D :=
  xb_if (fun σ H => c false ∧ Ct M B S_0 H_0 G σ H) hc (fun h X A => convB (h1 h X A) fun D' σ H ⟨p, le⟩ => ⟨p, fun _ _ z => z.elim, le.rt, le.bk, le.ct⟩) (fun h => xb_nil fun σ H p => ⟨h, p⟩)
    fun X A => ⟨fun pins s σ H D' I ⟨⟨h, p⟩, le⟩ => (k h X A).run pins s σ H D' I ⟨p, le⟩⟩
/-- for tg in iter: what holds at turn i, at the end; z: what the turns choose -/
theorem xs_for {ζ : Type} (Iv : Nat → ζ → Prop) (Gi : Nat → ζ → List Slot) {G1 : Nat → ζ → List Slot} {vs : List Nat} (hi : XI g l M G tg iter ts) (z0 : ζ) (h0 : Iv 0 z0) (e0 : Gi 0 z0 = G)
    (hg : ∀ i z t, ts[i]? = some t → Iv i z → XG g l M (Gi i z) vs tg t (G1 i z))
    (hb : ∀ i z t B', ts[i]? = some t → Iv i z → Ex B B' → XB g l (Ct M B' S_0 H_0 (G1 i z)) body { nx := fun σ H => ∃ z', Iv (i + 1) z' ∧ Ct M B' S_0 H_0 (Gi (i + 1) z') σ H, ct := fun σ H => ∃ z', Iv (i + 1) z' ∧ Ct M B' S_0 H_0 (Gi (i + 1) z') σ H, bk := D.nx, rt := D.rt })
    (hd : ∀ z σ H, Iv ts.length z → Ct M B S_0 H_0 (Gi ts.length z) σ H → D.nx σ H) (hs : ∀ env x, foldedSetIterable iter env x = pure x := by intro _ _; rfl) : XS g l (Ct M B S_0 H_0 G) (.For tg iter body [] pos) D := fun X A => by
  refine convS (ps_for (wi := tI M G ts) (g := fun v σ H Q => ∃ i z t, ts[i]? = some t ∧ Iv i z ∧ tG M (Gi i z) vs t (G1 i z) v σ H fun σ' H' => Q σ' H')
    (tb := fun D' σ H => ∃ i z t B', ts[i]? = some t ∧ Iv i z ∧ Ex B B' ∧ tS (Ct M B' S_0 H_0 (G1 i z)) { nx := fun σ H => ∃ z', Iv (i + 1) z' ∧ Ct M B' S_0 H_0 (Gi (i + 1) z') σ H, ct := fun σ H => ∃ z', Iv (i + 1) z' ∧ Ct M B' S_0 H_0 (Gi (i + 1) z') σ H, bk := D.nx, rt := D.rt } D' σ H)
    (by rw [A.nox]; exact PassesOwn.never) A.calm (hi X A) ⟨fun pins s σ H v w Q I r ⟨i, z, t, hit, iv, h⟩ => (hg i z t hit iv X A).run pins s σ H v w Q I r h⟩ ⟨fun pins s σ H D' I ⟨i, z, t, B', hit, iv, eb, h⟩ => (hb i z t B' hit iv eb X A).run pins s σ H D' I h⟩ (hs _)) fun D' σ H ⟨ct, le⟩ => ?_
  obtain ⟨S, c1, c2, pr⟩ := ct.get
  refine ⟨S, pr, fun J S1 H1 q1 wk => ?_⟩
  have c3 := c2.trans q1.1
  have p1 := pr.next q1
  refine ⟨fun i m σ H => m = ts.length - i ∧ i ≤ ts.length ∧ ∃ z, Iv i z ∧ Ct M S1 S_0 H_0 (Gi i z) σ H, ⟨ts.length, rfl, Nat.zero_le _, z0, h0, .of Ex.rfl' c3 (by rw [e0]; exact p1)⟩, ?_⟩
  rintro i m σ2 H2 ⟨rfl, hil, z, iv, ct2⟩
  obtain ⟨S2, d1, d2, p2⟩ := ct2.get
  by_cases hlt : i < ts.length
  · have hit : ts[i]? = some ts[i] := List.getElem?_eq_getElem hlt
    obtain ⟨go, yl⟩ := wk.go S2 H2 i _ d1 d2.gr.sh hit
    refine .inr ⟨go, fun σ H => i + 1 ≤ ts.length ∧ ∃ z, Iv (i + 1) z ∧ Ct M S1 S_0 H_0 (Gi (i + 1) z) σ H, fun σ H ⟨k1, k2⟩ => ⟨ts.length - (i + 1), by omega, rfl, k1, k2⟩, fun x H3 hy => ?_⟩
    obtain ⟨S3, g3, hx⟩ := yl x H3 hy
    have q3 : Post M S2 H2 S3 H3 := Post.of p2.2.1 g3
    refine ⟨i, z, _, hit, iv, S3, p2.next q3, hx, fun σ4 p4 n4 l4 => ⟨i, z, _, S1, hit, iv, c1.comp q1.1.ss, .of (d1.comp g3.ss) (d2.trans q3.1) p4, ?_, le.rt, le.nx, ?_⟩⟩
    · rintro σ H ⟨z', k1, k2⟩
      exact ⟨by omega, z', k1, k2⟩
    · rintro σ H ⟨z', k1, k2⟩
      exact ⟨by omega, z', k1, k2⟩
  · have e : i = ts.length := by omega
    subst e
    exact .inl ⟨wk.stop S2 H2 d1 d2.gr.sh, le.nx _ _ (hd z σ2 H2 iv (.of ((c1.comp q1.1.ss).comp d1) d2 p2))⟩
end
end Z
end

section
/-! Z3: cells of one's own; a def by its body. -/
namespace Z
open PySem PySem.Spec L2

/-! ### new cells -/
def tF {ι : Type} (M : Md) (G : List Slot) (q : ι → Prop) (c : ι → Cell) : TE := fun σ H Q => ∃ S, Pre M G σ S H ∧ ∀ i p S' H' o, q i → Post M S H S' H' → H p = none → S' p = none → H' p = some o → (c i).is S' o → Q (.ref p) H'
def XF {ι : Type} (g : Gc) (l : Lc) (M : Md) (G : List Slot) (e : Expr) (q : ι → Prop) (c : ι → Cell) : Prop := ∀ X, At g l X → PE X e (tF M G q c)
theorem Gr.fresh {mu : Addr → Prop} {S H S' H' : Hp} {p : Addr} (g : Gr mu S H S' H') (h : H' p = none) : H p = none := by
  cases e : H p with
  | none => rfl
  | some o => obtain ⟨o', e', _⟩ := g.al p o e; rw [h] at e'; cases e'
section
variable {ι : Type} {g : Gc} {l : Lc} {M : Md} {B S_0 H_0 : Hp} {G G1 : List Slot} {pos p tpos : Pos} {e a b tg iter elt : Expr} {es elts : List Expr} {t u r : Ty} {ts us : List Ty} {kk : Nat} {vs : List Nat} {st : Stmt} {rest body orelse : List Stmt} {pre mid : Pred} {D : Ends} {q : ι → Prop} {c : ι → Cell}
theorem tE_of_F {σ : L2.St} {H : Hp} {Q : VK} (h : tE M G (tEx q fun i => (c i).ty) σ H Q) : tF M G q c σ H Q := by
  obtain ⟨S, pr, k⟩ := h
  refine ⟨S, pr, fun i p S' H' o hi q1 hp hs ho hc => ?_⟩
  have nc := M.fresh pr.2.1 hp
  exact k _ _ H' ⟨q1.1.freeze hp hs ho, M.stabF hs nc q1.2⟩ ⟨i, hi, Cell.ty_is upd_same (Cell.mono (fun a u e => by
    rw [upd_ne (ne_of_none e hs)]
    exact e) hc)⟩
theorem xf_x (h : XF g l M G e q c) : XE g l M G e (tEx q fun i => (c i).ty) := fun X A => conv (h X A) fun σ H Q k => tE_of_F k
theorem lay_env {S H : Hp} {σ : L2.St} (e : Env M S H σ G) {p : Addr} {o : HO} {c : Cell} (i : Nat) (he : ∀ (j : Nat) (q : Addr) (d : Cell), G[j]? = some (Slot.own q d) → q ≠ p) (hp : H p = some o) (hs : S p = none) (hc : ¬ M.ch p ∧ ¬ M.dom p) (k : c.is S o) : Env M S H (σ.set i (some (.ref p))) (G.set i (.own p c)) where
  len := by rw [List.length_set, List.length_set]; exact e.len
  at_ := fun j s hj => by
    by_cases z : i = j
    · subst z
      have hl : i < G.length := by
        obtain ⟨k, _⟩ := List.getElem?_eq_some_iff.mp hj
        rw [List.length_set] at k
        exact k
      rw [List.getElem?_set_self hl] at hj
      cases hj
      exact ⟨_, List.getElem?_set_self (by rw [← e.len]; exact hl), rfl, hc, hs, o, hp, k⟩
    · rw [List.getElem?_set_ne z] at hj ⊢
      exact e.at_ j s hj
  dis := fun j k q' d q2 d2 hj hk n => by
    by_cases z : i = j
    · subst z
      have hl : i < G.length := by
        obtain ⟨k, _⟩ := List.getElem?_eq_some_iff.mp hj
        rw [List.length_set] at k
        exact k
      rw [List.getElem?_set_self hl] at hj
      rw [List.getElem?_set_ne n] at hk
      cases hj
      exact (he _ _ _ hk).symm
    · rw [List.getElem?_set_ne z] at hj
      by_cases y : i = k
      · subst y
        have hl : i < G.length := by
          obtain ⟨k, _⟩ := List.getElem?_eq_some_iff.mp hk
          rw [List.length_set] at k
          exact k
        rw [List.getElem?_set_self hl] at hk
        cases hk
        exact he _ _ _ hj
      · rw [List.getElem?_set_ne y] at hk
        exact e.dis j k q' d q2 d2 hj hk n
/-- name = a new cell -/
theorem tF_asg {σ : L2.St} {H : Hp} {i : Nat} {N : Pred} (ct : Ct M B S_0 H_0 G σ H) (k : ∀ j p σ H, q j → Ct M B S_0 H_0 (G.set i (.own p (c j))) σ H → N σ H) : tF M G q c σ H fun v H1 => N (σ.set i (some v)) H1 := by
  obtain ⟨S, c1, c2, pr⟩ := ct.get
  refine ⟨S, pr, fun j p S' H' o hj q1 hp hs ho hc => k j p _ _ hj ⟨S', c1.comp q1.1.ss, c2.trans q1.1, q1.2, ?_⟩⟩
  have nd : ¬ M.dom p := fun z => by
    cases e : H_0 p with
    | none => exact (c2.dm p).mp z e
    | some u => obtain ⟨o', e', _⟩ := c2.gr.al p u e; rw [hp] at e'; cases e'
  refine lay_env (pr.2.2.grow q1.1) i (fun m x d hm => ?_) ho hs ⟨M.fresh pr.2.1 hp, nd⟩ hc
  obtain ⟨_, _, hx⟩ := pr.2.2.at_ m _ hm
  obtain ⟨_, _, _, o2, h2, _⟩ := hx
  exact ne_of_none h2 hp
theorem xb_own (i : Nat) {x : Str} (he : XF g l M G e q c) (k : ∀ j p, q j → XB g l (Ct M B S_0 H_0 (G.set i (.own p (c j)))) rest D) (hN : l.N[i]? = some x := by rfl) (hx : Loc l.sc x := by first | exact Or.inl rfl | exact Or.inr rfl) (hf : l.fn x = true ∨ l.sc.names.lookup x = some .local := by first | exact Or.inl rfl | exact Or.inr rfl)
    (hs : ∀ env, swapsWith e (some (.Name x p)) pos.line env = pure false := by intro _; rfl) : XB g l (Ct M B S_0 H_0 G) (.Assign [.Name x p] e pos :: rest) D :=
  xb_cons (fun σ H => ∃ jp : { jp : ι × Addr // q jp.1 }, Ct M B S_0 H_0 (G.set i (.own jp.1.2 (c jp.1.1))) σ H) (fun X A =>
    convS (ps_set (by rw [A.N]; exact A.nd) (by rw [A.N]; exact hN) (A.loc hx) (he X A) (hs _) (A.sto hf)) fun D' σ H ⟨ct, le⟩ => tF_asg (N := D'.nx) ct fun j p σ H hj ct' => le.nx _ _ ⟨⟨(j, p), hj⟩, ct'⟩) (xb_ex fun jp => k jp.1.1 jp.1.2 jp.2)
/-- a display -/
theorem xf_lst (h : XA g l M G es ts) (hl : ts.length ≤ 100 := by exact of_decide_eq_true rfl) : XF g l M G (.List es pos) (fun _ : Unit => True) (fun _ => .lst ts) := fun X A =>
  conv (pe_lst (h X A)) fun σ H Q ⟨S, pr, k⟩ => tA.step pr fun vs S1 H1 q1 p1 h1 => ⟨by rw [← h1.len]; exact Nat.le_trans hl (by decide), fun a ha =>
    k () a S1 _ _ trivial (q1.trans (Post.of p1.2.1 (Gr.lay p1.1 ha))) (q1.1.fresh ha) (p1.1.none ha) upd_same ⟨vs, rfl, h1⟩⟩
theorem xf_dT : XF g l M G (.Dict [] [] pos) (fun _ : Unit => True) (fun _ => .dT []) := fun X A =>
  conv pe_dnewT fun σ H Q ⟨S, pr, k⟩ => fun a ha => k () a S _ _ trivial (Post.of pr.2.1 (Gr.lay pr.1 ha)) ha (pr.1.none ha) upd_same ⟨[], rfl, .nil⟩
theorem xf_dK : XF g l M G (.Dict [] [] pos) (fun _ : Unit => True) (fun _ => .dK []) := fun X A =>
  conv pe_dnewK fun σ H Q ⟨S, pr, k⟩ => fun a ha => k () a S _ _ trivial (Post.of pr.2.1 (Gr.lay pr.1 ha)) ha (pr.1.none ha) upd_same ⟨[], rfl, .nil⟩
theorem xb_newL (i : Nat) {x : Str} (k : ∀ p, XB g l (Ct M B S_0 H_0 (G.set i (.own p (.lst [])))) rest D) (hN : l.N[i]? = some x := by rfl) (hx : Loc l.sc x := by first | exact Or.inl rfl | exact Or.inr rfl) (hf : l.fn x = true ∨ l.sc.names.lookup x = some .local := by first | exact Or.inl rfl | exact Or.inr rfl) :
    XB g l (Ct M B S_0 H_0 G) (.Assign [.Name x p] (.List [] tpos) pos :: rest) D := xb_own i (xf_lst xa_nil) (fun _ p _ => k p) hN hx hf
/-- a cell of one's own is written -/
theorem Env.wr {S H : Hp} {σ : L2.St} (e : Env M S H σ G) {i : Nat} {p : Addr} {c c' : Cell} {o : HO} (hG : G[i]? = some (.own p c)) (k : c'.is S o) : Env M S (upd H p o) σ (G.set i (.own p c')) where
  len := by rw [List.length_set]; exact e.len
  at_ := fun j s hj => by
    obtain ⟨x, h1, h2, h3, h4, o2, h5, h6⟩ := e.at_ i _ hG
    by_cases z : i = j
    · subst z
      have hl : i < G.length := (List.getElem?_eq_some_iff.mp hG).1
      rw [List.getElem?_set_self hl] at hj
      cases hj
      exact ⟨x, h1, h2, h3, h4, o, upd_same, k⟩
    · rw [List.getElem?_set_ne z] at hj
      obtain ⟨y, k1, k2⟩ := e.at_ j s hj
      refine ⟨y, k1, ?_⟩
      cases s with
      | unk => trivial
      | ty t => exact k2
      | own q d =>
        obtain ⟨m1, m2, m3, o3, m4, m5⟩ := k2
        exact ⟨m1, m2, m3, o3, by rw [upd_ne (e.dis i j p c q d hG hj z).symm]; exact m4, m5⟩
  dis := fun j k' q' d q2 d2 hj hk n => by
    have key : ∀ {j : Nat} {q' : Addr} {d : Cell}, (G.set i (.own p c'))[j]? = some (.own q' d) → ∃ d', G[j]? = some (.own q' d') := fun {j q' d} hj => by
      by_cases z : i = j
      · subst z
        have hl : i < G.length := (List.getElem?_eq_some_iff.mp hG).1
        rw [List.getElem?_set_self hl] at hj
        cases hj
        exact ⟨_, hG⟩
      · rw [List.getElem?_set_ne z] at hj
        exact ⟨_, hj⟩
    obtain ⟨_, x1⟩ := key hj
    obtain ⟨_, x2⟩ := key hk
    exact e.dis j k' _ _ _ _ x1 x2 n
theorem Ct.wr {σ : L2.St} {S H : Hp} {i : Nat} {p : Addr} {c c' : Cell} {o : HO} (h1 : Ex B S) (h2 : Ent M S_0 H_0 S H) (pr : Pre M G σ S H) (hG : G[i]? = some (.own p c)) (k : c'.is S o) : Ct M B S_0 H_0 (G.set i (.own p c')) σ (upd H p o) := by
  obtain ⟨x, _, _, m3, m4, o0, m5, m6⟩ := pr.2.2.at_ i _ hG
  have hp : H_0 p = none := by
    cases e : H_0 p with
    | none => rfl
    | some u => exact absurd ((h2.dm p).mpr (by rw [e]; exact fun z => nomatch z)) m3.2
  exact ⟨S, h1, ⟨h2.gr.write hp m4, h2.dm⟩, M.stabW m3.1 (fun f => by rw [m5]; exact fun z => Cell.nx m6 _ f (Option.some.inj z)) pr.2.1, Env.wr pr.2.2 hG k⟩
end
end Z
end

section
/-! Z4: append, extend, freezing; a def by its body. -/
namespace Z
open PySem PySem.Spec L2
section
variable {ι : Type} {g : Gc} {l : Lc} {M : Md} {B S_0 H_0 : Hp} {G G1 : List Slot} {pos p tpos : Pos} {e a b tg iter elt : Expr} {es elts : List Expr} {t u r : Ty} {ts us : List Ty} {kk : Nat} {vs : List Nat} {st : Stmt} {rest body orelse : List Stmt} {pre mid : Pred} {D : Ends} {q : ι → Prop} {c : Cell}
theorem frz_env {σ : L2.St} {S H : Hp} {i : Nat} {p : Addr} (pr : Pre M G σ S H) (hG : G[i]? = some (.own p c)) : ∃ o, S p = none ∧ ¬ M.ch p ∧ H p = some o ∧ c.is S o ∧ Pre M (G.set i (.ty c.ty)) σ (upd S p o) H ∧ Gr no S H S H ∧ Ex S (upd S p o) := by
  obtain ⟨x, h1, h2, h3, h4, o, h5, h6⟩ := pr.2.2.at_ i _ hG
  have ex : Ex S (upd S p o) := fun a u e => by
    rw [upd_ne (ne_of_none e h4)]
    exact e
  refine ⟨o, h4, h3.1, h5, h6, ⟨fun a u e => ?_, M.stabF h4 h3.1 pr.2.1, ?_, fun j s hj => ?_, fun j k q' d q2 d2 hj hk n => ?_⟩, Gr.refl pr.1, ex⟩
  · by_cases z : a = p
    · subst z; rw [upd_same] at e; cases e; exact h5
    · rw [upd_ne z] at e; exact pr.1 a u e
  · rw [List.length_set]; exact pr.2.2.len
  · by_cases z : i = j
    · subst z
      have hl : i < G.length := (List.getElem?_eq_some_iff.mp hG).1
      rw [List.getElem?_set_self hl] at hj
      cases hj
      exact ⟨x, h1, _, h2, Cell.ty_is upd_same (Cell.mono ex h6)⟩
    · rw [List.getElem?_set_ne z] at hj
      obtain ⟨y, k1, k2⟩ := pr.2.2.at_ j s hj
      refine ⟨y, k1, ?_⟩
      cases s with
      | unk => trivial
      | ty t => obtain ⟨v, m1, m2⟩ := k2; exact ⟨v, m1, t.mono ex m2⟩
      | own q d =>
        obtain ⟨m1, m2, m3, o3, m4, m5⟩ := k2
        exact ⟨m1, m2, by rw [upd_ne (pr.2.2.dis i j p c q d hG hj z).symm]; exact m3, o3, m4, Cell.mono ex m5⟩
  · have key : ∀ {j : Nat} {q' : Addr} {d : Cell}, (G.set i (.ty c.ty))[j]? = some (.own q' d) → G[j]? = some (.own q' d) := fun {j q' d} hj => by
      by_cases z : i = j
      · subst z
        have hl : i < G.length := (List.getElem?_eq_some_iff.mp hG).1
        rw [List.getElem?_set_self hl] at hj
        cases hj
      · rw [List.getElem?_set_ne z] at hj
        exact hj
    exact pr.2.2.dis j k _ _ _ _ (key hj) (key hk) n
/-- a cell of one's own is frozen -/
theorem xb_frz (i : Nat) {p : Addr} (hG : G[i]? = some (.own p c) := by rfl) (k : XB g l (Ct M B S_0 H_0 (G.set i (.ty c.ty))) rest D) : XB g l (Ct M B S_0 H_0 G) rest D := xb_pre k fun σ H ct => by
  obtain ⟨S, c1, c2, pr⟩ := ct.get
  obtain ⟨o, s1, s2, s3, s4, s5, _, s6⟩ := frz_env pr hG
  obtain ⟨x, _, _, m3, m4, _⟩ := pr.2.2.at_ i _ hG
  have hp : H_0 p = none := by
    cases e : H_0 p with
    | none => rfl
    | some u => exact absurd ((c2.dm p).mpr (by rw [e]; exact fun z => nomatch z)) m3.2
  exact .of (c1.comp s6) ⟨c2.gr.freeze hp s1 s3, c2.dm⟩ s5
def era (S : Hp) (p : Addr) : Hp := fun a => if a = p then none else S a
theorem era_post {S H S' H' : Hp} {p : Addr} {o : HO} (hs : S p = none) (hc : ¬ M.ch p) (h : Post M (upd S p o) H S' H') : Post M S H (era S' p) H' := by
  have en : ∀ a, a ≠ p → era S' p a = S' a := fun a z => if_neg z
  have ep : era S' p p = none := if_pos rfl
  refine ⟨⟨fun a u e => ?_, fun a u e => ?_, h.1.hh, fun a u e m => ?_, h.1.al⟩, M.stab (fun a u c e => ⟨e, fun _ => en a fun z => hc (by rw [← z]; exact c)⟩) (fun _ _ e => e) h.2⟩
  · have z : a ≠ p := ne_of_none e hs
    rw [en a z]
    exact h.1.ss a u (by rw [upd_ne z]; exact e)
  · by_cases z : a = p
    · subst z; rw [ep] at e; cases e
    · rw [en a z] at e; exact h.1.sh a u e
  · by_cases z : a = p
    · subst z; rw [ep, hs]
    · rw [en a z, h.1.old a u e m, upd_ne z]
/-- a test over a cell of one's own: as if it were frozen -/
theorem xt_frz {b : Bool → Prop} (i : Nat) {p : Addr} (hG : G[i]? = some (.own p c)) (h : XT g l M (G.set i (.ty c.ty)) e b) : XT g l M G e b := fun X A => convT (h X A) fun σ H Q ⟨S, pr, k⟩ => by
  obtain ⟨o, s1, s2, s3, s4, s5, _, s6⟩ := frz_env pr hG
  exact ⟨_, s5, fun d S' H' q1 hd => k d _ H' (era_post s1 s2 q1) hd⟩
/-- a type that asks nothing of the heap -/
def Flat (t : Ty) : Prop := ∀ S S' v, t.is S v → t.is S' v
theorem flat_cst {v : V} : Flat (cst v) := fun _ _ _ h => h
theorem flat_ex {ι : Type} {q : ι → Prop} {f : ι → Ty} (h : ∀ i, Flat (f i)) : Flat (tEx q f) := fun S S' v ⟨i, h1, h2⟩ => ⟨i, h1, h i S S' v h2⟩
theorem x_frz (i : Nat) {p : Addr} (hG : G[i]? = some (.own p c)) (hf : Flat t) (h : XE g l M (G.set i (.ty c.ty)) e t) : XE g l M G e t := fun X A => conv (h X A) fun σ H Q ⟨S, pr, k⟩ => by
  obtain ⟨o, s1, s2, s3, s4, s5, _, s6⟩ := frz_env pr hG
  exact ⟨_, s5, fun d S' H' q1 hd => k d _ H' (era_post s1 s2 q1) (hf _ _ _ hd)⟩
/-- a method's call is of the plain shape -/
structure MSh (e : Expr) (es : List Expr) (apos cpos : Pos) : Prop where
  few : ∀ env, ((backTo cpos (starEach (e :: es) env)).all (fun x => !x.1) && (backToKw cpos (keywordEach [] env)).all (fun x => x.1.isSome) && decide ((e :: es).length + ([] : List Keyword).length + (if ([] : List Keyword).isEmpty then 0 else 1) < 30)) = true
  line : (apos.endLine == cpos.line) = true
  star : ∀ env, starEach (e :: es) env = (false, eval e env) :: starEach es env
  plain : ∀ env, (backTo cpos (starEach es env)).any (·.1) = false
/-- found.append(e) -/
theorem xs_app (i : Nat) {x : Str} {p0 p1 p2 : Pos} {p : Addr} (hG : G[i]? = some (.own p (.lst ts))) (he : XE g l M G e t) (hl : ts.length < 100000) (hd : ∀ σ H, Ct M B S_0 H_0 (G.set i (.own p (.lst (ts ++ [t])))) σ H → D.nx σ H) (hN : l.N[i]? = some x := by rfl)
    (hv : Vis l.sc x := by first | exact Or.inl rfl | exact Or.inr (Or.inl rfl) | exact Or.inr (Or.inr rfl)) (h1 : (x == ("__debug__" : Str)) = false := by decide) (h2 : (x == ("__classdict__" : Str)) = false := by decide) (hs : MSh e [] p1 p2 := by exact ⟨fun _ => rfl, rfl, fun _ => rfl, fun _ => rfl⟩)
    (hsw : ∀ env, swapsWith (.Call (.Attribute (.Name x p0) "append" p1) [e] [] p2) none pos.line env = pure false := by intro _; rfl) : XS g l (Ct M B S_0 H_0 G) (.Expr (.Call (.Attribute (.Name x p0) "append" p1) [e] [] p2) pos) D := fun X A =>
  convS (ps_expr (pe_bm PySem.F.plainAttrs_list PySem.F.slot_list_append PySem.F.type_list_append mt_append (pe_var (i := i) (by rw [A.N]; exact hN) (A.vis hv) h1 h2) (pa_cons (he X A) pa_nil (hs.star _)) rfl (hs.few _) hs.line (hs.star _) (hs.plain _)) (hsw _)) fun D' σ H ⟨ct, le⟩ => by
    obtain ⟨S, c1, c2, pr⟩ := ct.get
    obtain ⟨y, k1, k2, k3, k4, o, k5, zs, k6, k7⟩ := pr.2.2.at_ i _ hG
    subst k2 k6
    refine ⟨_, k1, .inl ⟨rfl, _, SqL.of k5⟩, tE.step pr fun v S1 H1 q1 p1 hv => ?_⟩
    obtain ⟨y2, k1', k2', k3', k4', o2, k5', zs2, k6', k7'⟩ := p1.2.2.at_ i _ hG
    subst k2' k6'
    refine ⟨p, zs2, v, rfl, rfl, k5', ?_, le.nx _ _ (hd _ _ (.wr (c1.comp q1.1.ss) (c2.trans q1.1) p1 hG ⟨_, rfl, k7'.snoc hv⟩))⟩
    have e1 := k7'.len
    have k3 : (100000 : Nat) < sizeLine := by decide
    omega
theorem xb_app (i : Nat) {x : Str} {p0 p1 p2 : Pos} {p : Addr} (hG : G[i]? = some (.own p (.lst ts))) (he : XE g l M G e t) (hl : ts.length < 100000) (k : XB g l (Ct M B S_0 H_0 (G.set i (.own p (.lst (ts ++ [t]))))) rest D) (hN : l.N[i]? = some x := by rfl)
    (hv : Vis l.sc x := by first | exact Or.inl rfl | exact Or.inr (Or.inl rfl) | exact Or.inr (Or.inr rfl)) (h1 : (x == ("__debug__" : Str)) = false := by decide) (h2 : (x == ("__classdict__" : Str)) = false := by decide) (hs : MSh e [] p1 p2 := by exact ⟨fun _ => rfl, rfl, fun _ => rfl, fun _ => rfl⟩)
    (hsw : ∀ env, swapsWith (.Call (.Attribute (.Name x p0) "append" p1) [e] [] p2) none pos.line env = pure false := by intro _; rfl) : XB g l (Ct M B S_0 H_0 G) (.Expr (.Call (.Attribute (.Name x p0) "append" p1) [e] [] p2) pos :: rest) D :=
  xb_cons _ (xs_app i hG he hl (fun _ _ h => h) hN hv h1 h2 hs hsw) k
/-- found.extend(e): e a list, of some lengths -/
theorem xs_ext {f : ι → List Ty} (i : Nat) {x : Str} {p0 p1 p2 : Pos} {p : Addr} (hG : G[i]? = some (.own p (.lst ts))) (he : XE g l M G e (tEx q fun j => tLs (f j))) (hl : ∀ j, q j → ts.length + (f j).length < 100000) (hd : ∀ j σ H, q j → Ct M B S_0 H_0 (G.set i (.own p (.lst (ts ++ f j)))) σ H → D.nx σ H) (hN : l.N[i]? = some x := by rfl)
    (hv : Vis l.sc x := by first | exact Or.inl rfl | exact Or.inr (Or.inl rfl) | exact Or.inr (Or.inr rfl)) (h1 : (x == ("__debug__" : Str)) = false := by decide) (h2 : (x == ("__classdict__" : Str)) = false := by decide) (hs : MSh e [] p1 p2 := by exact ⟨fun _ => rfl, rfl, fun _ => rfl, fun _ => rfl⟩)
    (hsw : ∀ env, swapsWith (.Call (.Attribute (.Name x p0) "extend" p1) [e] [] p2) none pos.line env = pure false := by intro _; rfl) : XS g l (Ct M B S_0 H_0 G) (.Expr (.Call (.Attribute (.Name x p0) "extend" p1) [e] [] p2) pos) D := fun X A =>
  convS (ps_expr (pe_bm PySem.F.plainAttrs_list PySem.F.slot_list_extend PySem.F.type_list_extend mt_extend (pe_var (i := i) (by rw [A.N]; exact hN) (A.vis hv) h1 h2) (pa_cons (he X A) pa_nil (hs.star _)) rfl (hs.few _) hs.line (hs.star _) (hs.plain _)) (hsw _)) fun D' σ H ⟨ct, le⟩ => by
    obtain ⟨S, c1, c2, pr⟩ := ct.get
    obtain ⟨y, k1, k2, k3, k4, o, k5, zs, k6, k7⟩ := pr.2.2.at_ i _ hG
    subst k2 k6
    refine ⟨_, k1, .inl ⟨rfl, _, SqL.of k5⟩, tE.step pr fun v S1 H1 q1 p1 ⟨j, hj, d, ws, m1, m2, m3⟩ => ?_⟩
    subst m1
    obtain ⟨y2, k1', k2', k3', k4', o2, k5', zs2, k6', k7'⟩ := p1.2.2.at_ i _ hG
    subst k2' k6'
    refine ⟨p, d, zs2, ws, rfl, rfl, k5', p1.1 _ _ m2, ?_, le.nx _ _ (hd j _ _ hj (.wr (c1.comp q1.1.ss) (c2.trans q1.1) p1 hG ⟨_, rfl, k7'.app m3⟩))⟩
    have e1 := k7'.len
    have e2 := m3.len
    have e3 := hl j hj
    have k3 : (100000 : Nat) < sizeLine := by decide
    omega
end

/-! ### a def by its body -/
def Rt (M : Md) (S_0 H_0 : Hp) (t : Ty) : VK := fun v H => ∃ S, Gr M.ch S_0 H_0 S H ∧ M.inv S H ∧ t.is S v
abbrev Dr (M : Md) (S_0 H_0 : Hp) (t : Ty) : Ends := { nx := fun _ H => Rt M S_0 H_0 t .non H, rt := Rt M S_0 H_0 t }
/-- a def of the text -/
structure Df (g : Gc) (x : Str) (st : Stmt) : Prop where
  ex : ∃ f fd, FunD g.K x x (defArgs st) (defBody st) (defScope st) [] [] f fd ∧ g.mg x = some (.ref f)
theorem env_start {M : Md} {S H : Hp} {N : List Str} {ts : List Ty} {vs : List V} (h : Tys S ts vs) (hl : ts.length ≤ N.length) : Env M S H (start N vs) (ts.map Slot.ty ++ List.replicate (N.length - ts.length) .unk) where
  len := by
    unfold L2.start
    rw [List.length_append, List.length_append, List.length_map, List.length_map, List.length_replicate, List.length_replicate, h.len]
  at_ := fun i s hi => by
    unfold L2.start
    by_cases hc : i < ts.length
    · rw [List.getElem?_append_left (by rw [List.length_map]; exact hc), List.getElem?_map] at hi
      obtain ⟨t, ht, rfl⟩ := Option.map_eq_some_iff.mp hi
      obtain ⟨v, hv, k⟩ := h.get ht
      exact ⟨some v, by rw [List.getElem?_append_left (by rw [List.length_map, ← h.len]; exact hc), List.getElem?_map, hv]; rfl, v, rfl, k⟩
    · rw [List.getElem?_append_right (by rw [List.length_map]; omega), List.getElem?_replicate] at hi
      split at hi
      · rename_i z
        cases hi
        refine ⟨none, ?_, trivial⟩
        rw [List.length_map] at z
        rw [List.getElem?_append_right (by rw [List.length_map, ← h.len]; omega), List.getElem?_replicate, List.length_map, ← h.len, if_pos z]
      · cases hi
  dis := fun i j p c q d hi hj n => by
    have key : ∀ {i : Nat} {p : Addr} {c : Cell}, (ts.map Slot.ty ++ List.replicate (N.length - ts.length) .unk)[i]? ≠ some (.own p c) := fun {i p c} hi => by
      by_cases hc : i < ts.length
      · rw [List.getElem?_append_left (by rw [List.length_map]; exact hc), List.getElem?_map] at hi
        obtain ⟨t, ht, e⟩ := Option.map_eq_some_iff.mp hi
        cases e
      · rw [List.getElem?_append_right (by rw [List.length_map]; omega), List.getElem?_replicate] at hi
        split at hi
        · cases hi
        · cases hi
    exact absurd hi key
theorem fn_mk {g : Gc} {x : Str} {st : Stmt} {N ps : List Str} {k : Nat} {ι : Type} {mo : ι → Md → Prop} {as : ι → List Ty} {r : ι → Ty} (F : Df g x st) (S : FnScope N ps (defScope st)) (hl : ∀ i, (as i).length = ps.length) (hN : ps.length ≤ N.length)
    (hb : ∀ (kV doc pm : Value) (an : Option Addr) (cdv ct : Value) (us : List Value), us.length = ps.length → bindArgs (PySem.W.fnOf x x (defArgs st) (defBody st) (defScope st) .none kV doc pm an cdv ct) ⟨us, []⟩ = pure (ps.zip us))
    (hmo : ∀ i M d, mo i M → mo i { M with dom := d })
    (body : ∀ (i : ι) (M : Md) (S_0 H_0 : Hp), mo i M → XB g ⟨N, defScope st, k, fun _ => true⟩ (Ct M S_0 S_0 H_0 ((as i).map Slot.ty ++ List.replicate (N.length - (as i).length) .unk)) (defBody st) (Dr M S_0 H_0 (r i))) : Fn g x (k + 1) (Spc mo as r) := by
  obtain ⟨f, fd, FD, hm⟩ := F.ex
  refine ⟨f, fd, ps, FD.ok S (fun vs H Q E h => ?_) (fun cdv A outer s H vs Q E hr h => ?_), hm, FD.kp, FD.bindsN hb⟩
  · obtain ⟨M, i, S1, h1, h2, h3, h4, h5⟩ := h
    rw [← hl i, h4.len]
  · obtain ⟨M, i, S1, h1, h2, h3, h4, h5⟩ := h
    have b := body i { M with dom := fun a => H a ≠ none } S1 H (hmo i M _ h1) (cxOf CX0 g.P g.w g.K g.mg g.base N x (defScope st) f cdv A outer s H E).nox ⟨rfl, rfl, rfl, rfl, rfl, rfl, rfl, hr, rfl, S.nd, fun _ _ => rfl, rfl, S.kind⟩
    refine ⟨_, b.nox, ⟨S1, Ex.rfl', ⟨Gr.refl h2, fun a => Iff.rfl⟩, h3, env_start h4 (by rw [hl i]; exact hN)⟩, ⟨fun σ H' ⟨S2, k1, k2, k3⟩ => h5 _ S2 H' ⟨k1, k2⟩ k3, fun v H' ⟨S2, k1, k2, k3⟩ => h5 v S2 H' ⟨k1, k2⟩ k3, fun _ _ z => z, fun _ _ z => z⟩⟩
section
variable {g : Gc} {l : Lc} {M : Md} {B S_0 H_0 : Hp} {G : List Slot} {pos : Pos} {e : Expr} {t u : Ty} {rest : List Stmt} {D : Ends}
/-- return e, of the def's type -/
theorem xb_rt (he : XE g l M G e t) (hs : Sub t u) (hD : ∀ v H, Rt M S_0 H_0 u v H → D.rt v H := by exact fun _ _ h => h) : XB g l (Ct M B S_0 H_0 G) (.Return (some e) pos :: rest) D :=
  xb_ret he fun v S H _ h1 h2 h3 => hD v H ⟨S, h1, h2, hs S v h3⟩
theorem xb_rt' (he : XE g l M G e t) (hD : ∀ v H, Rt M S_0 H_0 t v H → D.rt v H := by exact fun _ _ h => h) : XB g l (Ct M B S_0 H_0 G) (.Return (some e) pos :: rest) D := xb_rt he Sub.rfl' hD
end
abbrev any {ι : Type} : ι → Md → Prop := fun _ _ => True
abbrev Spp {ι : Type} (as : ι → List Ty) (r : ι → Ty) : Sp := Spc any as r
end Z
end

section
/-! Z5: typed rules of operators and built-ins. -/
namespace Z
open PySem PySem.Spec L2

/-! ### data -/
def isD (t : Ty) (d : PyData) : Prop := ∀ K S H v, Ex S H → t.is S v → Dp K H v d
def isDs : List Ty → List PyData → Prop
  | [], [] => True
  | t :: ts, d :: ds => isD t d ∧ isDs ts ds
  | _, _ => False
theorem isD_non : isD tNon .none := fun K S H v _ h => by cases h; exact .non
theorem isD_bl {b : Bool} : isD (tBl b) (.bool b) := fun K S H v _ h => by cases h; exact .bl b
theorem isD_in {i : Int} : isD (tIn i) (.int i) := fun K S H v _ h => by cases h; exact .int i
theorem isD_st {s : Str} : isD (tSt s) (.str s) := fun K S H v _ h => by cases h; exact .str s
theorem isDs_all {K : PySem.W.Frag} {S H : Hp} (e : Ex S H) : ∀ {ts : List Ty} {ds : List PyData} {vs : List V}, isDs ts ds → Tys S ts vs → DpAll K H vs ds
  | [], [], _, _, h => by cases h; exact .nil
  | t :: ts, d :: ds, _, hd, h => by
    cases h with
    | cons a r => exact .cons (hd.1 K S H _ e a) (isDs_all e hd.2 r)
  | [], _ :: _, _, hd, _ => hd.elim
  | _ :: _, [], _, hd, _ => hd.elim
theorem isD_tu {ts : List Ty} {ds : List PyData} (h : isDs ts ds) : isD (tTu ts) (.tuple ds) := fun K S H v e ⟨a, vs, h1, h2, h3⟩ => by
  subst h1
  exact .tup (SqT.of (e _ _ h2)) (isDs_all e h h3)
theorem isD_ls {ts : List Ty} {ds : List PyData} (h : isDs ts ds) : isD (tLs ts) (.list ds) := fun K S H v e ⟨a, vs, h1, h2, h3⟩ => by
  subst h1
  exact .lst (SqL.of (e _ _ h2)) (isDs_all e h h3)
theorem isDs_map {α : Type} {f : α → Ty} {d : α → PyData} (h : ∀ x, isD (f x) (d x)) : ∀ l : List α, isDs (l.map f) (l.map d)
  | [] => trivial
  | x :: l => ⟨h x, isDs_map h l⟩
theorem isDs_mapM {α : Type} {f : α → Ty} {d : α → PyData} : ∀ {l : List α}, (∀ x ∈ l, isD (f x) (d x)) → isDs (l.map f) (l.map d)
  | [], _ => trivial
  | x :: l, h => ⟨h x (List.mem_cons_self ..), isDs_mapM fun y hy => h y (List.mem_cons_of_mem _ hy)⟩
def dKy : Key → PyData
  | .inl i => .int i
  | .inr s => .str s
theorem isD_ky (k : Key) : isD (tKy k) (dKy k) := by
  cases k
  · exact isD_in
  · exact isD_st
def dKs (r : List Key) : PyData := .tuple (r.map dKy)
theorem isD_ks (r : List Key) : isD (tKs r) (dKs r) := isD_tu (isDs_map isD_ky r)

/-- data that == tells apart: kept whole, of small depth -/
structure Dt (d : PyData) (n : Nat) : Prop where
  lay : d.canLay0 = true
  dep : d.depth ≤ n
theorem Dt.mono {d : PyData} {n m : Nat} (h : Dt d n) (l : n ≤ m) : Dt d m := ⟨h.lay, Nat.le_trans h.dep l⟩
theorem dt_int {i : Int} : Dt (.int i) 0 := ⟨rfl, Nat.le_refl _⟩
theorem dt_str {i : Str} (h : PyData.strOk i = true) : Dt (.str i) 0 := ⟨by simpa only [PyData.canLay0] using h, Nat.le_refl _⟩
def kOk : Key → Bool
  | .inl _ => true
  | .inr s => PyData.strOk s
theorem dt_bool {i : Bool} : Dt (.bool i) 0 := ⟨rfl, Nat.le_refl _⟩
theorem dt_none : Dt .none 0 := ⟨rfl, Nat.le_refl _⟩
theorem dts {n : Nat} : ∀ {ds : List PyData}, (∀ d ∈ ds, Dt d n) → PyData.canLayAll0 ds = true ∧ PyData.depthAll ds ≤ n
  | [], _ => ⟨by simp [PyData.canLayAll0], by simp [PyData.depthAll]⟩
  | d :: ds, h => by
    obtain ⟨i1, i2⟩ := dts fun x hx => h x (List.mem_cons_of_mem _ hx)
    have hd := h d (List.mem_cons_self ..)
    refine ⟨by simp [PyData.canLayAll0, hd.lay, i1], ?_⟩
    have := hd.dep
    simp only [PyData.depthAll]
    omega
theorem dt_tup {n : Nat} {ds : List PyData} (h : ∀ d ∈ ds, Dt d n) : Dt (.tuple ds) (n + 1) := by
  obtain ⟨h1, h2⟩ := dts h
  exact ⟨by simpa only [PyData.canLay0] using h1, by simp only [PyData.depth]; omega⟩
theorem dt_lst {n : Nat} {ds : List PyData} (h : ∀ d ∈ ds, Dt d n) : Dt (.list ds) (n + 1) := by
  obtain ⟨h1, h2⟩ := dts h
  exact ⟨by simpa only [PyData.canLay0] using h1, by simp only [PyData.depth]; omega⟩
theorem dt_ky {k : Key} (h : kOk k = true) : Dt (dKy k) 0 := by
  cases k
  · exact dt_int
  · exact dt_str h
theorem dt_ks {r : List Key} (h : ∀ k ∈ r, kOk k = true) : Dt (dKs r) 1 := dt_tup fun d hd => by
  obtain ⟨k, hk, rfl⟩ := List.mem_map.mp hd
  exact dt_ky (h k hk)
theorem Dt.shaped {d : PyData} {n : Nat} (h : Dt d n) (hn : n ≤ 64) : SeqAt.shaped d = true := by
  show (d.canLay0 && decide (d.depth ≤ 64)) = true
  rw [Bool.and_eq_true]
  exact ⟨h.lay, decide_eq_true (Nat.le_trans h.dep hn)⟩
theorem eqv_ky (a b : Key) : PyData.eqv (dKy a) (dKy b) = decide (a = b) := by
  cases a with
  | inl i => cases b with
    | inl j => show (i == j) = _; rw [key_ll]
    | inr y => show false = _; rw [key_lr]
  | inr x => cases b with
    | inl j => show false = _; rw [key_rl]
    | inr y => show (x == y) = _; rw [key_rr]; exact Bool.beq_eq_decide_eq _ _
/-- equality of lists of data is equality of what they tell -/
theorem eqvAll_map {α : Type} [DecidableEq α] {d : α → PyData} (h : ∀ a b, PyData.eqv (d a) (d b) = decide (a = b)) : ∀ (l m : List α), PyData.eqvAll (l.map d) (m.map d) = decide (l = m)
  | [], [] => by simp [PyData.eqvAll]
  | [], _ :: _ => by simp [PyData.eqvAll]
  | _ :: _, [] => by simp [PyData.eqvAll]
  | a :: l, b :: m => by
    simp only [List.map_cons, PyData.eqvAll, h a b, eqvAll_map h l m]
    by_cases e : a = b
    · by_cases e2 : l = m
      · simp [e, e2]
      · simp [e, e2]
    · simp [e]
theorem eqv_tup {α : Type} [DecidableEq α] {d : α → PyData} (h : ∀ a b, PyData.eqv (d a) (d b) = decide (a = b)) (l m : List α) : PyData.eqv (.tuple (l.map d)) (.tuple (m.map d)) = decide (l = m) := by
  simp only [PyData.eqv]
  exact eqvAll_map h l m
theorem eqv_lst {α : Type} [DecidableEq α] {d : α → PyData} (h : ∀ a b, PyData.eqv (d a) (d b) = decide (a = b)) (l m : List α) : PyData.eqv (.list (l.map d)) (.list (m.map d)) = decide (l = m) := by
  simp only [PyData.eqv]
  exact eqvAll_map h l m
theorem eqv_ks (a b : List Key) : PyData.eqv (dKs a) (dKs b) = decide (a = b) := eqv_tup eqv_ky a b
theorem eqv_pair {α β : Type} [DecidableEq α] [DecidableEq β] {d : α → PyData} {f : β → PyData} (h : ∀ a b, PyData.eqv (d a) (d b) = decide (a = b)) (k : ∀ a b, PyData.eqv (f a) (f b) = decide (a = b)) (a a' : α) (b b' : β) :
    PyData.eqv (.tuple [d a, f b]) (.tuple [d a', f b']) = decide ((a, b) = (a', b')) := by
  simp only [PyData.eqv, PyData.eqvAll, h, k, Bool.and_true]
  by_cases e : a = a'
  · by_cases e2 : b = b'
    · simp [e, e2]
    · simp [e, e2]
  · simp [e]

section
variable {ι : Type} {g : Gc} {l : Lc} {M : Md} {G : List Slot} {pos p tpos : Pos} {e a b c : Expr} {es : List Expr} {t u r : Ty} {ts us : List Ty} {d f : PyData} {n m : Nat}
theorem R2T_eqD {K : PySem.W.Frag} (h1 : isD t d) (h2 : isD u f) (s1 : SeqAt.shaped d = true) (s2 : SeqAt.shaped f = true) : R2T (rEqD K) t u (tBl (PyData.eqv d f)) := fun S H x y Q e hx hy k => ⟨d, f, h1 K S H x e hx, h2 K S H y e hy, s1, s2, k _ S H (Gr.refl e) rfl⟩
theorem R2T_neD {K : PySem.W.Frag} (h1 : isD t d) (h2 : isD u f) (s1 : SeqAt.shaped d = true) (s2 : SeqAt.shaped f = true) : R2T (rNeD K) t u (tBl (!PyData.eqv d f)) := fun S H x y Q e hx hy k => ⟨d, f, h1 K S H x e hx, h2 K S H y e hy, s1, s2, k _ S H (Gr.refl e) rfl⟩
theorem op_eqA {X : Cx} (A : At g l X) : OpR X (compareOp .Eq) (rEqD g.K) := by rw [← A.K]; exact op_eqD A.room.units
theorem op_neA {X : Cx} (A : At g l X) : OpR X (compareOp .NotEq) (rNeD g.K) := by rw [← A.K]; exact op_neD A.room.units
theorem sub_bl {x : Bool} {q : Bool → Prop} (h : q x) : Sub (tBl x) (tEx q tBl) := fun S v k => ⟨x, h, k⟩
theorem R2T.sub {f : R2} {z z' : Ty} (h : R2T f t u z) (s : Sub z z') : R2T f t u z' := fun S H x y Q e hx hy k => h S H x y Q e hx hy fun w S' H' g1 hw => k w S' H' g1 (s _ _ hw)
/-- a == b of data; as a value, as a test -/
theorem x_eq (h1 : isD t d) (h2 : isD u f) (s1 : Dt d n) (s2 : Dt f m) (ha : XE g l M G a t) (hb : XE g l M G b u) (hn : n ≤ 64 := by decide) (hm : m ≤ 64 := by decide) : XE g l M G (.Compare a [.Eq] [b] pos) (tBl (PyData.eqv d f)) :=
  x_cmp (fun X A => op_eqA A) (R2T_eqD h1 h2 (s1.shaped hn) (s2.shaped hm)) ha hb
theorem x_ne (h1 : isD t d) (h2 : isD u f) (s1 : Dt d n) (s2 : Dt f m) (ha : XE g l M G a t) (hb : XE g l M G b u) (hn : n ≤ 64 := by decide) (hm : m ≤ 64 := by decide) : XE g l M G (.Compare a [.NotEq] [b] pos) (tBl (!PyData.eqv d f)) :=
  x_cmp (fun X A => op_neA A) (R2T_neD h1 h2 (s1.shaped hn) (s2.shaped hm)) ha hb
theorem xt_bl {x : Bool} (h : XE g l M G e (tBl x)) (he : ∀ (env : PySem.Env) whole, isTrue e env whole = (do let v ← whole; standAt e.pos; holding [v] (truthy v)) := by intro _ _; rfl) : XT g l M G e (fun y => y = x) := xt_val (x_sub h (sub_bl rfl)) he
theorem xt_eq (h1 : isD t d) (h2 : isD u f) (s1 : Dt d n) (s2 : Dt f m) (ha : XE g l M G a t) (hb : XE g l M G b u) (hn : n ≤ 64 := by decide) (hm : m ≤ 64 := by decide) : XT g l M G (.Compare a [.Eq] [b] pos) (fun y => y = PyData.eqv d f) :=
  xt_cmp (fun X A => op_eqA A) ((R2T_eqD h1 h2 (s1.shaped hn) (s2.shaped hm)).sub (sub_bl rfl)) ha hb
theorem xt_ne (h1 : isD t d) (h2 : isD u f) (s1 : Dt d n) (s2 : Dt f m) (ha : XE g l M G a t) (hb : XE g l M G b u) (hn : n ≤ 64 := by decide) (hm : m ≤ 64 := by decide) : XT g l M G (.Compare a [.NotEq] [b] pos) (fun y => y = !PyData.eqv d f) :=
  xt_cmp (fun X A => op_neA A) ((R2T_neD h1 h2 (s1.shaped hn) (s2.shaped hm)).sub (sub_bl rfl)) ha hb

/-! in, not in: lists and tuples of data -/
def rInT (K : PySem.W.Frag) (neg : Bool) : R2 := fun x y H Q => ∃ d ds, Dp K H x d ∧ (Dp K H y (.tuple ds) ∨ Dp K H y (.list ds)) ∧ SeqAt.shaped d = true ∧ SeqAt.shaped (.list ds) = true ∧ Q (.bl (neg ^^ ds.any fun z => PyData.eqv z d)) H
theorem shaped_tl {ds : List PyData} (h : SeqAt.shaped (.list ds) = true) : PyData.canLayAll0 ds = true ∧ PyData.depthAll ds + 1 ≤ 64 := by
  have h1 : PyData.canLay0 (.list ds) = true := SeqAt.canLay_of_shaped h
  have h2 := SeqAt.depth_of_shaped h
  simp only [PyData.canLay0] at h1
  simp only [PyData.depth] at h2
  exact ⟨h1, by omega⟩
theorem op_inT {X : Cx} (hu : X.A.units + 65 < cLine) : OpR X (compareOp .In) (rInT X.K false) := by
  intro pins s σ H x y v u Q I rx ry ⟨d, ds, hd, he, sd, se, k⟩
  rw [Bool.false_xor] at k
  obtain ⟨as, r1⟩ := Dp.reads I d x v hd rx
  have hdep := SeqAt.depth_of_shaped sd
  obtain ⟨c1, c2⟩ := shaped_tl se
  rcases he with he | he
  · obtain ⟨bs, r2⟩ := Dp.reads I (.tuple ds) y u he ry
    exact SeqAt.in_tuple_reads r2 r1 c1 (SeqAt.canLay_of_shaped sd) (by omega) ⟨.bl _, H, I, rfl, k⟩
  · obtain ⟨bs, r2⟩ := Dp.reads I (.list ds) y u he ry
    exact SeqAt.in_list_reads r2 r1 c1 (SeqAt.canLay_of_shaped sd) (by omega) ⟨.bl _, H, I, rfl, k⟩
theorem op_niT {X : Cx} (hu : X.A.units + 65 < cLine) : OpR X (compareOp .NotIn) (rInT X.K true) := by
  intro pins s σ H x y v u Q I rx ry ⟨d, ds, hd, he, sd, se, k⟩
  rw [Bool.true_xor] at k
  obtain ⟨as, r1⟩ := Dp.reads I d x v hd rx
  have hdep := SeqAt.depth_of_shaped sd
  obtain ⟨c1, c2⟩ := shaped_tl se
  rcases he with he | he
  · obtain ⟨bs, r2⟩ := Dp.reads I (.tuple ds) y u he ry
    exact SeqAt.notIn_tuple_reads r2 r1 c1 (SeqAt.canLay_of_shaped sd) (by omega) ⟨.bl _, H, I, rfl, k⟩
  · obtain ⟨bs, r2⟩ := Dp.reads I (.list ds) y u he ry
    exact SeqAt.notIn_list_reads r2 r1 c1 (SeqAt.canLay_of_shaped sd) (by omega) ⟨.bl _, H, I, rfl, k⟩
theorem units65 {X : Cx} (A : At g l X) : X.A.units + 65 < cLine := by have := A.room.un; omega
/-- a sequence of data -/
def isSeq (u : Ty) (ds : List PyData) : Prop := isD u (.tuple ds) ∨ isD u (.list ds)
theorem R2T_in {K : PySem.W.Frag} {neg : Bool} {ds : List PyData} (h1 : isD t d) (h2 : isSeq u ds) (s1 : SeqAt.shaped d = true) (s2 : SeqAt.shaped (.list ds) = true) : R2T (rInT K neg) t u (tBl (neg ^^ ds.any fun z => PyData.eqv z d)) := fun S H x y Q e hx hy k =>
  ⟨d, ds, h1 K S H x e hx, h2.elim (fun z => .inl (z K S H y e hy)) (fun z => .inr (z K S H y e hy)), s1, s2, k _ S H (Gr.refl e) rfl⟩
theorem x_in {ds : List PyData} (h1 : isD t d) (h2 : isSeq u ds) (s1 : Dt d n) (s2 : ∀ x ∈ ds, Dt x n) (ha : XE g l M G a t) (hb : XE g l M G b u) (hn : n ≤ 60 := by decide) (hm : behindInMarks .In b = false := by rfl) : XE g l M G (.Compare a [.In] [b] pos) (tBl (ds.any fun z => PyData.eqv z d)) :=
  x_sub (x_cmp (fun X A => by rw [← A.K]; exact op_inT (units65 A)) (R2T_in (K := g.K) (neg := false) h1 h2 (s1.shaped (by omega)) ((dt_lst s2).shaped (by omega))) ha hb hm) (by rw [Bool.false_xor]; exact Sub.rfl')
theorem x_ni {ds : List PyData} (h1 : isD t d) (h2 : isSeq u ds) (s1 : Dt d n) (s2 : ∀ x ∈ ds, Dt x n) (ha : XE g l M G a t) (hb : XE g l M G b u) (hn : n ≤ 60 := by decide) (hm : behindInMarks .NotIn b = false := by rfl) : XE g l M G (.Compare a [.NotIn] [b] pos) (tBl (!ds.any fun z => PyData.eqv z d)) :=
  x_sub (x_cmp (fun X A => by rw [← A.K]; exact op_niT (units65 A)) (R2T_in (K := g.K) (neg := true) h1 h2 (s1.shaped (by omega)) ((dt_lst s2).shaped (by omega))) ha hb hm) (by rw [Bool.true_xor]; exact Sub.rfl')
theorem xt_in {ds : List PyData} (h1 : isD t d) (h2 : isSeq u ds) (s1 : Dt d n) (s2 : ∀ x ∈ ds, Dt x n) (ha : XE g l M G a t) (hb : XE g l M G b u) (hn : n ≤ 60 := by decide) (hm : behindInMarks .In b = false := by rfl) : XT g l M G (.Compare a [.In] [b] pos) (fun y => y = ds.any fun z => PyData.eqv z d) :=
  xt_cmp (fun X A => by rw [← A.K]; exact op_inT (units65 A)) ((R2T_in (K := g.K) (neg := false) h1 h2 (s1.shaped (by omega)) ((dt_lst s2).shaped (by omega))).sub (by rw [Bool.false_xor]; exact sub_bl rfl)) ha hb hm
theorem xt_ni {ds : List PyData} (h1 : isD t d) (h2 : isSeq u ds) (s1 : Dt d n) (s2 : ∀ x ∈ ds, Dt x n) (ha : XE g l M G a t) (hb : XE g l M G b u) (hn : n ≤ 60 := by decide) (hm : behindInMarks .NotIn b = false := by rfl) : XT g l M G (.Compare a [.NotIn] [b] pos) (fun y => y = !ds.any fun z => PyData.eqv z d) :=
  xt_cmp (fun X A => by rw [← A.K]; exact op_niT (units65 A)) ((R2T_in (K := g.K) (neg := true) h1 h2 (s1.shaped (by omega)) ((dt_lst s2).shaped (by omega))).sub (by rw [Bool.true_xor]; exact sub_bl rfl)) ha hb hm
theorem any_mem {α : Type} [DecidableEq α] {d : α → PyData} (h : ∀ a b, PyData.eqv (d a) (d b) = decide (a = b)) (x : α) : ∀ l : List α, ((l.map d).any fun z => PyData.eqv z (d x)) = decide (x ∈ l)
  | [] => by simp
  | y :: l => by
    rw [List.map_cons, List.any_cons, h, any_mem h x l]
    by_cases e : y = x
    · simp [e]
    · have e' : x ≠ y := fun z => e z.symm
      simp [e, e']

/-! ints -/
theorem R2T_I0 {f : Int → Int → Int} {i j : Int} : R2T (rI0 fun i j => .int (f i j)) (tIn i) (tIn j) (tIn (f i j)) := fun S H x y Q e hx hy k => by
  cases hx; cases hy
  exact ⟨i, j, rfl, rfl, k _ S H (Gr.refl e) rfl⟩
theorem R2T_B0 {f : Int → Int → Bool} {i j : Int} : R2T (rI0 fun i j => .bl (f i j)) (tIn i) (tIn j) (tBl (f i j)) := fun S H x y Q e hx hy k => by
  cases hx; cases hy
  exact ⟨i, j, rfl, rfl, k _ S H (Gr.refl e) rfl⟩
theorem R2T_I {C : Int → Int → Prop} {f : Int → Int → Int} {i j : Int} (hc : C i j) : R2T (rI C fun i j => .int (f i j)) (tIn i) (tIn j) (tIn (f i j)) := fun S H x y Q e hx hy k => by
  cases hx; cases hy
  exact ⟨i, j, rfl, rfl, hc, k _ S H (Gr.refl e) rfl⟩
variable {i j k : Int}
theorem x_add (ha : XE g l M G a (tIn i)) (hb : XE g l M G b (tIn j)) : XE g l M G (.BinOp a .Add b pos) (tIn (i + j)) := x_op (fun X A => op_add) R2T_I0 ha hb
theorem x_subt (ha : XE g l M G a (tIn i)) (hb : XE g l M G b (tIn j)) : XE g l M G (.BinOp a .Sub b pos) (tIn (i - j)) := x_op (fun X A => op_sub) R2T_I0 ha hb
theorem x_mul (ha : XE g l M G a (tIn i)) (hb : XE g l M G b (tIn j)) (h : CMul i j) : XE g l M G (.BinOp a .Mult b pos) (tIn (i * j)) := x_op (fun X A => op_mul) (R2T_I (f := fun i j => i * j) h) ha hb
theorem x_fdv (ha : XE g l M G a (tIn i)) (hb : XE g l M G b (tIn j)) (h : CDiv i j) : XE g l M G (.BinOp a .FloorDiv b pos) (tIn (i / j)) := x_op (fun X A => op_fdiv) (R2T_I (f := fun i j => i / j) h) ha hb
theorem x_mod (ha : XE g l M G a (tIn i)) (hb : XE g l M G b (tIn j)) (h : 0 < j) : XE g l M G (.BinOp a .Mod b pos) (tIn (i % j)) := x_op (fun X A => op_mod) (R2T_I (C := fun _ j => 0 < j) (f := fun i j => i % j) h) ha hb
theorem x_pow (ha : XE g l M G a (tIn i)) (hb : XE g l M G b (tIn j)) (h : CPow i j) : XE g l M G (.BinOp a .Pow b pos) (tIn (i ^ j.toNat)) := x_op (fun X A => op_pow) (R2T_I (f := fun i j => i ^ j.toNat) h) ha hb
theorem x_lt (ha : XE g l M G a (tIn i)) (hb : XE g l M G b (tIn j)) : XE g l M G (.Compare a [.Lt] [b] pos) (tBl (decide (i < j))) := x_cmp (fun X A => op_lt) (R2T_B0 (f := fun i j => decide (i < j))) ha hb
theorem x_le (ha : XE g l M G a (tIn i)) (hb : XE g l M G b (tIn j)) : XE g l M G (.Compare a [.LtE] [b] pos) (tBl (decide (i ≤ j))) := x_cmp (fun X A => op_le) (R2T_B0 (f := fun i j => decide (i ≤ j))) ha hb
theorem x_ge (ha : XE g l M G a (tIn i)) (hb : XE g l M G b (tIn j)) : XE g l M G (.Compare a [.GtE] [b] pos) (tBl (decide (j ≤ i))) := x_cmp (fun X A => op_ge) (R2T_B0 (f := fun i j => decide (j ≤ i))) ha hb
theorem x_gt (ha : XE g l M G a (tIn i)) (hb : XE g l M G b (tIn j)) : XE g l M G (.Compare a [.Gt] [b] pos) (tBl (decide (j < i))) := x_cmp (fun X A => op_gt) (R2T_B0 (f := fun i j => decide (j < i))) ha hb
theorem xt_lt (ha : XE g l M G a (tIn i)) (hb : XE g l M G b (tIn j)) : XT g l M G (.Compare a [.Lt] [b] pos) (fun y => y = decide (i < j)) := xt_cmp (fun X A => op_lt) ((R2T_B0 (f := fun i j => decide (i < j))).sub (sub_bl rfl)) ha hb
theorem xt_le (ha : XE g l M G a (tIn i)) (hb : XE g l M G b (tIn j)) : XT g l M G (.Compare a [.LtE] [b] pos) (fun y => y = decide (i ≤ j)) := xt_cmp (fun X A => op_le) ((R2T_B0 (f := fun i j => decide (i ≤ j))).sub (sub_bl rfl)) ha hb
theorem xt_ge (ha : XE g l M G a (tIn i)) (hb : XE g l M G b (tIn j)) : XT g l M G (.Compare a [.GtE] [b] pos) (fun y => y = decide (j ≤ i)) := xt_cmp (fun X A => op_ge) ((R2T_B0 (f := fun i j => decide (j ≤ i))).sub (sub_bl rfl)) ha hb
theorem xt_gt (ha : XE g l M G a (tIn i)) (hb : XE g l M G b (tIn j)) : XT g l M G (.Compare a [.Gt] [b] pos) (fun y => y = decide (j < i)) := xt_cmp (fun X A => op_gt) ((R2T_B0 (f := fun i j => decide (j < i))).sub (sub_bl rfl)) ha hb
/-- a <= b <= c -/
theorem x_lele (ha : XE g l M G a (tIn i)) (hb : XE g l M G b (tIn j)) (hc : XE g l M G c (tIn k)) (hm : lastMarks [.LtE, .LtE] [b, c] = false := by with_unfolding_all rfl) : XE g l M G (.Compare a [.LtE, .LtE] [b, c] pos) (tBl (decide (i ≤ j ∧ j ≤ k))) := fun X A =>
  conv (pe_chain op_le op_le (ha X A) (hb X A) (hc X A) hm) fun σ H Q ⟨S, pr, q⟩ => tE.step pr fun v S1 H1 q1 p1 h1 => tE.step p1 fun w S2 H2 q2 p2 h2 => by
    cases h1; cases h2
    refine ⟨i, j, rfl, rfl, _, rfl, ?_⟩
    by_cases z : i ≤ j
    · rw [decide_eq_true z]
      refine iteT (tE.step p2 fun y S3 H3 q3 p3 h3 => ?_)
      cases h3
      exact ⟨j, k, rfl, rfl, q _ S3 H3 ((q1.trans q2).trans q3) (by show V.bl _ = V.bl _; simp [z])⟩
    · rw [decide_eq_false z]
      exact iteF (q _ S2 H2 (q1.trans q2) (by show V.bl _ = V.bl _; simp [z]))
theorem xt_lele (ha : XE g l M G a (tIn i)) (hb : XE g l M G b (tIn j)) (hc : XE g l M G c (tIn k)) (hm : lastMarks [.LtE, .LtE] [b, c] = false := by with_unfolding_all rfl) : XT g l M G (.Compare a [.LtE, .LtE] [b, c] pos) (fun y => y = decide (i ≤ j ∧ j ≤ k)) := fun X A =>
  convT (pt_chain op_le op_le (ha X A) (hb X A) (hc X A) hm) fun σ H Q ⟨S, pr, q⟩ => tE.step pr fun v S1 H1 q1 p1 h1 => tE.step p1 fun w S2 H2 q2 p2 h2 => by
    cases h1; cases h2
    refine ⟨i, j, rfl, rfl, _, rfl, ?_⟩
    by_cases z : i ≤ j
    · rw [decide_eq_true z]
      refine iteT (tE.step p2 fun y S3 H3 q3 p3 h3 => ?_)
      cases h3
      exact ⟨j, k, rfl, rfl, _, rfl, q _ S3 H3 ((q1.trans q2).trans q3) (by simp [z])⟩
    · rw [decide_eq_false z]
      exact iteF ⟨_, rfl, q _ S2 H2 (q1.trans q2) (by simp [z])⟩
/-- s < t of texts -/
theorem x_ltS {x y : Str} (ha : XE g l M G a (tSt x)) (hb : XE g l M G b (tSt y)) : XE g l M G (.Compare a [.Lt] [b] pos) (tBl (decide (x.cps.toList < y.cps.toList))) := x_cmp (fun X A => op_lt_str) (fun S H v w Q e hx hy k => by
  cases hx; cases hy
  exact ⟨x, y, rfl, rfl, k _ S H (Gr.refl e) rfl⟩) ha hb
/-- is None, is not None -/
theorem xt_isN {v : V} (ha : XE g l M G a (cst v)) {jj : Nat} {p2 : Pos} : XT g l M G (.Compare a [.Is] [.Constant .none jj p2] pos) (fun y => y = decide (v = .non)) := xt_cmp (fun X A => op_isN) (fun S H x y Q e hx hy k => by
  cases hx; cases hy
  exact ⟨rfl, k _ S H (Gr.refl e) ⟨_, rfl, rfl⟩⟩) ha x_non
/-- a type that None is not of -/
def NotN (t : Ty) : Prop := ∀ S v, t.is S v → v ≠ .non
theorem notN_tu : NotN (tTu ts) := fun S v ⟨a, vs, h, _⟩ => by rw [h]; exact fun z => nomatch z
theorem notN_dT {kvs : List (List Key × Ty)} : NotN (tDT kvs) := fun S v ⟨a, vs, h, _⟩ => by rw [h]; exact fun z => nomatch z
theorem notN_dK {kvs : List (Key × Ty)} : NotN (tDK kvs) := fun S v ⟨a, vs, h, _⟩ => by rw [h]; exact fun z => nomatch z
theorem xt_isN0 (hn : NotN t) (ha : XE g l M G a t) {jj : Nat} {p2 : Pos} : XT g l M G (.Compare a [.Is] [.Constant .none jj p2] pos) (fun y => y = false) := xt_cmp (fun X A => op_isN) (fun S H x y Q e hx hy k => by
  cases hy
  exact ⟨rfl, k _ S H (Gr.refl e) ⟨_, decide_eq_false (hn S x hx), rfl⟩⟩) ha x_non
theorem xt_notN {v : V} (ha : XE g l M G a (cst v)) {jj : Nat} {p2 : Pos} : XT g l M G (.Compare a [.IsNot] [.Constant .none jj p2] pos) (fun y => y = !decide (v = .non)) := xt_cmp (fun X A => op_notN) (fun S H x y Q e hx hy k => by
  cases hx; cases hy
  exact ⟨rfl, k _ S H (Gr.refl e) ⟨_, rfl, rfl⟩⟩) ha x_non
theorem xt_notN0 (hn : NotN t) (ha : XE g l M G a t) {jj : Nat} {p2 : Pos} : XT g l M G (.Compare a [.IsNot] [.Constant .none jj p2] pos) (fun y => y = true) := xt_cmp (fun X A => op_notN) (fun S H x y Q e hx hy k => by
  cases hy
  exact ⟨rfl, k _ S H (Gr.refl e) ⟨_, by rw [decide_eq_false (hn S x hx)]; rfl, rfl⟩⟩) ha x_non

/-! subscripts -/
theorem x_ixP {f : R2} {z : Ty} (ho : ∀ X, At g l X → IxR X f) (hr : R2T f t u z) (ha : XE g l M G a t) (hb : XE g l M G b u) (hs : PlainIx b := by exact fun _ _ => rfl) : XE g l M G (.Subscript a b pos) z := fun X A =>
  conv (pe_ix (ho X A) (ha X A) (hb X A) hs) fun σ H Q ⟨S, pr, q⟩ => tE.step pr fun v S1 H1 q1 p1 h1 => tE.step p1 fun w S2 H2 q2 p2 h2 =>
    hr S2 H2 v w Q p2.1 (t.mono q2.1.ss h1) h2 fun y S3 H3 q3 h3 => q y S3 H3 ((q1.trans q2).trans (Post.of p2.2.1 q3)) h3
theorem ixA_tup {X : Cx} (A : At g l X) : IxR X (rIxT g.K) := by rw [← A.K]; exact ix_tup
theorem ixA_lst {X : Cx} (A : At g l X) : IxR X (rIxL g.K) := by rw [← A.K]; exact ix_list
theorem x_ixT {n : Nat} (ha : XE g l M G a (tTu ts)) (hb : XE g l M G b (tIn (n : Int))) (hi : ts[n]? = some t) (hs : PlainIx b := by exact fun _ _ => rfl) : XE g l M G (.Subscript a b pos) t := x_ixP (t := tTu ts) (u := tIn (n : Int)) (fun X A => ixA_tup A) (fun S H x y Q e ⟨c, vs, h1, h2, h3⟩ hy k => by
  cases hy
  obtain ⟨v, hv, hT⟩ := h3.get hi
  exact ⟨c, vs, n, v, h1, rfl, SqT.of (e _ _ h2), atI_nat hv, k _ S H (Gr.refl e) hT⟩) ha hb hs
theorem x_ixL {n : Nat} (ha : XE g l M G a (tLs ts)) (hb : XE g l M G b (tIn (n : Int))) (hi : ts[n]? = some t) (hs : PlainIx b := by exact fun _ _ => rfl) : XE g l M G (.Subscript a b pos) t := x_ixP (t := tLs ts) (u := tIn (n : Int)) (fun X A => ixA_lst A) (fun S H x y Q e ⟨c, vs, h1, h2, h3⟩ hy k => by
  cases hy
  obtain ⟨v, hv, hT⟩ := h3.get hi
  exact ⟨c, vs, n, v, h1, rfl, SqL.of (e _ _ h2), atI_nat hv, k _ S H (Gr.refl e) hT⟩) ha hb hs
end
end Z
end

section
/-! Z6: built-ins, slices, comprehensions over data. -/
namespace Z
open PySem PySem.Spec L2
section
variable {ι : Type} {g : Gc} {l : Lc} {M : Md} {G : List Slot} {pos p tpos p0 p1 : Pos} {e a b c tg iter elt : Expr} {es ifs : List Expr} {t u r : Ty} {ts us : List Ty} {d f : PyData} {n m : Nat} {scope : Scope} {own : List (Str × Nat)}
theorem xa_1 (h : XE g l M G a t) (hs : ∀ env, starEach [a] env = (false, eval a env) :: starEach [] env := by intro _; rfl) : XA g l M G [a] [t] := xa_cons h xa_nil hs
theorem xa_2 (h : XE g l M G a t) (k : XE g l M G b u) (hs : ∀ env, starEach [a, b] env = (false, eval a env) :: starEach [b] env := by intro _; rfl) (hs2 : ∀ env, starEach [b] env = (false, eval b env) :: starEach [] env := by intro _; rfl) : XA g l M G [a, b] [t, u] := xa_cons h (xa_1 k hs2) hs
theorem xa_3 (h : XE g l M G a t) (k : XE g l M G b u) (k2 : XE g l M G c r) (hs : ∀ env, starEach [a, b, c] env = (false, eval a env) :: starEach [b, c] env := by intro _; rfl) (hs2 : ∀ env, starEach [b, c] env = (false, eval b env) :: starEach [c] env := by intro _; rfl) (hs3 : ∀ env, starEach [c] env = (false, eval c env) :: starEach [] env := by intro _; rfl) : XA g l M G [a, b, c] [t, u, r] := xa_cons h (xa_2 k k2 hs2 hs3) hs

/-! built-ins by their names: what the module must not have -/
theorem x_lenL (h : XE g l M G a (tLs ts)) (hm : g.mg "len" = none) (hg : l.sc.names.lookup ("len" : Str) = some .globalImplicit := by rfl) (hs : ∀ env, starEach [a] env = (false, eval a env) :: starEach [] env := by intro _; rfl) (hpl : ∀ env, (backTo pos (starEach [] env)).any (·.1) = false := by intro _; rfl) : XE g l M G (.Call (.Name "len" p) [a] [] pos) (tIn (ts.length : Int)) :=
  x_callB (f := fun xs H Q => ∃ p ys, xs = [.ref p] ∧ (SqL g.K H p ys ∨ SqT g.K H p ys) ∧ Q (.int ys.length) H) (fun X A => by rw [← A.K]; exact call_len_seq) (fun S H vs Q e k q => by
    obtain ⟨v, rfl, d, ws, rfl, h2, h3⟩ := k.one
    exact ⟨d, ws, rfl, .inl (SqL.of (e _ _ h2)), by rw [← h3.len]; exact q _ S H (Gr.refl e) rfl⟩) hm boot_len (xa_1 h hs) hg (by decide) (by decide) hs hpl
theorem x_lenT (h : XE g l M G a (tTu ts)) (hm : g.mg "len" = none) (hg : l.sc.names.lookup ("len" : Str) = some .globalImplicit := by rfl) (hs : ∀ env, starEach [a] env = (false, eval a env) :: starEach [] env := by intro _; rfl) (hpl : ∀ env, (backTo pos (starEach [] env)).any (·.1) = false := by intro _; rfl) : XE g l M G (.Call (.Name "len" p) [a] [] pos) (tIn (ts.length : Int)) :=
  x_callB (f := fun xs H Q => ∃ p ys, xs = [.ref p] ∧ (SqL g.K H p ys ∨ SqT g.K H p ys) ∧ Q (.int ys.length) H) (fun X A => by rw [← A.K]; exact call_len_seq) (fun S H vs Q e k q => by
    obtain ⟨v, rfl, d, ws, rfl, h2, h3⟩ := k.one
    exact ⟨d, ws, rfl, .inr (SqT.of (e _ _ h2)), by rw [← h3.len]; exact q _ S H (Gr.refl e) rfl⟩) hm boot_len (xa_1 h hs) hg (by decide) (by decide) hs hpl
theorem x_lenS {z : Str} (h : XE g l M G a (tSt z)) (hz : z.length ≤ 100000) (hm : g.mg "len" = none) (hg : l.sc.names.lookup ("len" : Str) = some .globalImplicit := by rfl) (hs : ∀ env, starEach [a] env = (false, eval a env) :: starEach [] env := by intro _; rfl) (hpl : ∀ env, (backTo pos (starEach [] env)).any (·.1) = false := by intro _; rfl) : XE g l M G (.Call (.Name "len" p) [a] [] pos) (tIn (z.length : Int)) :=
  x_callB (fun X A => call_len_str) (fun S H vs Q e k q => by
    obtain ⟨v, rfl, h1⟩ := k.one
    cases h1
    exact ⟨z, rfl, Nat.le_trans hz (by decide), q _ S H (Gr.refl e) rfl⟩) hm boot_len (xa_1 h hs) hg (by decide) (by decide) hs hpl
theorem boot_tuple' : bootBuiltins ("tuple" : Str) = some (.type "tuple") := by decide +kernel
theorem boot_list' : bootBuiltins ("list" : Str) = some (.type "list") := by decide +kernel
theorem boot_all' : bootBuiltins ("all" : Str) = some (.builtin "all") := by decide +kernel
theorem boot_isinstance' : bootBuiltins ("isinstance" : Str) = some (.builtin "isinstance") := by decide +kernel
/-- tuple(a list), list(a tuple | a list) -/
theorem x_tupL (h : XE g l M G a (tLs ts)) (hm : g.mg "tuple" = none) (hg : l.sc.names.lookup ("tuple" : Str) = some .globalImplicit := by rfl) (hs : ∀ env, starEach [a] env = (false, eval a env) :: starEach [] env := by intro _; rfl) (hpl : ∀ env, (backTo pos (starEach [] env)).any (·.1) = false := by intro _; rfl) : XE g l M G (.Call (.Name "tuple" p) [a] [] pos) (tTu ts) :=
  x_callTy (f := fun xs H Q => ∃ p ys, xs = [.ref p] ∧ ((SqL g.K H p ys ∧ ∀ l, H l = none → Q (.ref l) (upd H l (.tup ys))) ∨ (SqT g.K H p ys ∧ Q (.ref p) H))) (fun X A => by rw [← A.K]; exact call_tuple_of) (fun S H vs Q e k q => by
    obtain ⟨v, rfl, d, ws, rfl, h2, h3⟩ := k.one
    refine ⟨d, ws, rfl, .inl ⟨SqL.of (e _ _ h2), fun w hw => ?_⟩⟩
    have gr := Gr.new (o := .tup ws) e hw
    exact q _ _ _ gr ⟨w, ws, rfl, upd_same, h3.mono gr.ss⟩) hm boot_tuple' (xa_1 h hs) hg (by decide) (by decide) hs hpl
theorem x_tupT (h : XE g l M G a (tTu ts)) (hm : g.mg "tuple" = none) (hg : l.sc.names.lookup ("tuple" : Str) = some .globalImplicit := by rfl) (hs : ∀ env, starEach [a] env = (false, eval a env) :: starEach [] env := by intro _; rfl) (hpl : ∀ env, (backTo pos (starEach [] env)).any (·.1) = false := by intro _; rfl) : XE g l M G (.Call (.Name "tuple" p) [a] [] pos) (tTu ts) :=
  x_callTy (f := fun xs H Q => ∃ p ys, xs = [.ref p] ∧ ((SqL g.K H p ys ∧ ∀ l, H l = none → Q (.ref l) (upd H l (.tup ys))) ∨ (SqT g.K H p ys ∧ Q (.ref p) H))) (fun X A => by rw [← A.K]; exact call_tuple_of) (fun S H vs Q e k q => by
    obtain ⟨v, rfl, d, ws, rfl, h2, h3⟩ := k.one
    exact ⟨d, ws, rfl, .inr ⟨SqT.of (e _ _ h2), q _ S H (Gr.refl e) ⟨d, ws, rfl, h2, h3⟩⟩⟩) hm boot_tuple' (xa_1 h hs) hg (by decide) (by decide) hs hpl
theorem x_lstT (h : XE g l M G a (tTu ts)) (hm : g.mg "list" = none) (hg : l.sc.names.lookup ("list" : Str) = some .globalImplicit := by rfl) (hs : ∀ env, starEach [a] env = (false, eval a env) :: starEach [] env := by intro _; rfl) (hpl : ∀ env, (backTo pos (starEach [] env)).any (·.1) = false := by intro _; rfl) : XE g l M G (.Call (.Name "list" p) [a] [] pos) (tLs ts) :=
  x_callTy (f := fun xs H Q => ∃ p ys, xs = [.ref p] ∧ (SqL g.K H p ys ∨ SqT g.K H p ys) ∧ ∀ l, H l = none → Q (.ref l) (upd H l (.lst ys))) (fun X A => by rw [← A.K]; exact call_list_of) (fun S H vs Q e k q => by
    obtain ⟨v, rfl, d, ws, rfl, h2, h3⟩ := k.one
    refine ⟨d, ws, rfl, .inr (SqT.of (e _ _ h2)), fun w hw => ?_⟩
    have gr := Gr.new (o := .lst ws) e hw
    exact q _ _ _ gr ⟨w, ws, rfl, upd_same, h3.mono gr.ss⟩) hm boot_list' (xa_1 h hs) hg (by decide) (by decide) hs hpl
theorem bls_of {S : Hp} : ∀ {bs : List Bool} {vs : List V}, Tys S (bs.map tBl) vs → vs = bs.map V.bl
  | [], _, h => by cases h; rfl
  | b :: bs, _, h => by
    cases h with
    | cons a r => rw [show _ = V.bl b from a, bls_of r] <;> rfl
theorem x_all {bs : List Bool} (h : XE g l M G a (tLs (bs.map tBl))) (hm : g.mg "all" = none) (hg : l.sc.names.lookup ("all" : Str) = some .globalImplicit := by rfl) (hs : ∀ env, starEach [a] env = (false, eval a env) :: starEach [] env := by intro _; rfl) (hpl : ∀ env, (backTo pos (starEach [] env)).any (·.1) = false := by intro _; rfl) : XE g l M G (.Call (.Name "all" p) [a] [] pos) (tBl (bs.all id)) :=
  x_callB (f := rAll g.K) (fun X A => by rw [← A.K]; exact cr_all A.calm) (fun S H vs Q e k q => by
    obtain ⟨v, rfl, d, ws, rfl, h2, h3⟩ := k.one
    rw [bls_of h3] at h2
    exact ⟨d, bs, rfl, SqL.of (e _ _ h2), q _ S H (Gr.refl e) rfl⟩) hm boot_all' (xa_1 h hs) hg (by decide) (by decide) hs hpl

/-! isinstance -/
def Tag (t : Ty) (n : String) : Prop := ∀ K S H v, Ex S H → t.is S v → TyX K H v (.type n)
theorem tag_in {i : Int} : Tag (tIn i) "int" := fun K S H v e h => by cases h; exact .base (.int i)
theorem tag_st {i : Str} : Tag (tSt i) "str" := fun K S H v e h => by cases h; exact .base (.str i)
theorem tag_bl {i : Bool} : Tag (tBl i) "bool" := fun K S H v e h => by cases h; exact .base (.bl i)
theorem tag_tu : Tag (tTu ts) "tuple" := fun K S H v e ⟨a, vs, h1, h2, _⟩ => by subst h1; exact .base (.tup (e _ _ h2))
theorem tag_ls : Tag (tLs ts) "list" := fun K S H v e ⟨a, vs, h1, h2, _⟩ => by subst h1; exact .base (.lst (e _ _ h2))
def kTag : Key → String
  | .inl _ => "int"
  | .inr _ => "str"
theorem tag_ky (k : Key) : Tag (tKy k) (kTag k) := by
  cases k
  · exact tag_in
  · exact tag_st
/-- isinstance(a, T): T a built-in class -/
theorem x_isi {tag T : String} {x : Bool} {nm : Str} (h : XE g l M G a t) (ht : Tag t tag) (hk : kitB tag T = some x) (hm : g.mg "isinstance" = none) (hmT : g.mg nm = none) (hb : bootBuiltins nm = some (.type T)) (hg : l.sc.names.lookup ("isinstance" : Str) = some .globalImplicit := by rfl) (hgT : l.sc.names.lookup nm = some .globalImplicit := by rfl) (hn : nm ≠ "__name__" := by decide) (hd : (nm == ("__debug__" : Str)) = false := by decide)
    (hs : ∀ env, starEach [a, .Name nm p0] env = (false, eval a env) :: starEach [.Name nm p0] env := by intro _; rfl) (hs2 : ∀ env, starEach [.Name nm p0] env = (false, eval (.Name nm p0) env) :: starEach [] env := by intro _; rfl) (hpl : ∀ env, (backTo pos (starEach [.Name nm p0] env)).any (·.1) = false := by intro _; rfl) : XE g l M G (.Call (.Name "isinstance" p) [a, .Name nm p0] [] pos) (tBl x) :=
  x_callB (f := rIsi g.K) (fun X A => by rw [← A.K]; exact call_isi) (fun S H vs Q e k q => by
    obtain ⟨v, w, rfl, h1, h2⟩ := k.two
    cases h2
    exact ⟨v, .ty T, _, _, x, rfl, .ty T, ht _ S H v e h1, kit_ty hk, q _ S H (Gr.refl e) rfl⟩) hm boot_isinstance' (xa_2 h (x_bltn (v := .ty T) hmT hb rfl hgT hn hd) hs hs2) hg (by decide) (by decide) hs hpl
/-- isinstance(a, (T, U)) -/
theorem x_isi2 {tag T U : String} {x y : Bool} {nm nu : Str} {k1 : Nat} {pt pu p2 : Pos} (h : XE g l M G a t) (ht : Tag t tag) (hk : kitB tag T = some x) (hk2 : kitB tag U = some y) (hm : g.mg "isinstance" = none) (hmT : g.mg nm = none) (hmU : g.mg nu = none) (hb : bootBuiltins nm = some (.type T)) (hb2 : bootBuiltins nu = some (.type U))
    (hg : l.sc.names.lookup ("isinstance" : Str) = some .globalImplicit := by rfl) (hgT : l.sc.names.lookup nm = some .globalImplicit := by rfl) (hgU : l.sc.names.lookup nu = some .globalImplicit := by rfl) (hn : nm ≠ "__name__" := by decide) (hd : (nm == ("__debug__" : Str)) = false := by decide) (hn2 : nu ≠ "__name__" := by decide) (hd2 : (nu == ("__debug__" : Str)) = false := by decide)
    (hs : ∀ env, starEach [a, .Tuple [.Name nm pt, .Name nu pu] k1 p2] env = (false, eval a env) :: starEach [.Tuple [.Name nm pt, .Name nu pu] k1 p2] env := by intro _; rfl) (hs2 : ∀ env, starEach [.Tuple [.Name nm pt, .Name nu pu] k1 p2] env = (false, eval (.Tuple [.Name nm pt, .Name nu pu] k1 p2) env) :: starEach [] env := by intro _; rfl)
    (hs3 : ∀ env, starEach [.Name nm pt, .Name nu pu] env = (false, eval (.Name nm pt) env) :: starEach [.Name nu pu] env := by intro _; rfl) (hs4 : ∀ env, starEach [.Name nu pu] env = (false, eval (.Name nu pu) env) :: starEach [] env := by intro _; rfl)
    (hpl : ∀ env, (backTo pos (starEach [.Tuple [.Name nm pt, .Name nu pu] k1 p2] env)).any (·.1) = false := by intro _; rfl) : XE g l M G (.Call (.Name "isinstance" p) [a, .Tuple [.Name nm pt, .Name nu pu] k1 p2] [] pos) (tBl (x || y)) :=
  x_callB (f := rIsiT g.K) (fun X A => by rw [← A.K]; exact call_isiT) (fun S H vs Q e k q => by
    obtain ⟨v, w, rfl, h1, d, ws, rfl, h2, h3⟩ := k.two
    obtain ⟨w1, w2, rfl, h4, h5⟩ := h3.two
    cases h4
    cases h5
    refine ⟨v, d, [.ty T, .ty U], _, [.type T, .type U], x || y, rfl, e _ _ h2, .cons (.ty T) (.cons (.ty U) .nil), ht _ S H v e h1, ?_, q _ S H (Gr.refl e) rfl⟩
    exact kitAny_cons (kit_ty hk) (fun z => kitAny_cons (kit_ty hk2) (fun z2 => by rw [z, z2]; exact kitAny_nil) (fun z2 => by rw [z, z2]; rfl)) (fun z => by rw [z]; rfl)) hm boot_isinstance' (xa_2 h (x_tup (xa_2 (x_bltn (v := .ty T) hmT hb rfl hgT hn hd) (x_bltn (v := .ty U) hmU hb2 rfl hgU hn2 hd2) hs3 hs4) (by show 2 ≤ 100; decide)) hs hs2) hg (by decide) (by decide) hs hpl

/-! slices -/
theorem cut_to {vs : List V} {k : Nat} : cutV vs none (some (k : Int)) = vs.take k := by
  unfold cutV
  rw [HT.sIx_none, HT.sIx_nat, List.drop_zero, Nat.sub_zero]
  by_cases h : k ≤ vs.length
  · rw [Nat.min_eq_left h]
  · rw [Nat.min_eq_right (by omega), List.take_of_length_le (by omega), List.take_of_length_le (by omega)]
theorem cut_from {vs : List V} {k : Nat} : cutV vs (some (k : Int)) none = vs.drop k := by
  unfold cutV
  rw [HT.sIx_none, HT.sIx_nat]
  by_cases h : k ≤ vs.length
  · rw [Nat.min_eq_left h]
    exact List.take_of_length_le (by rw [List.length_drop]; omega)
  · rw [Nat.min_eq_right (by omega), List.drop_of_length_le (Nat.le_refl _), List.drop_of_length_le (by omega), List.take_nil]
theorem slA {X : Cx} (A : At g l X) : SlR X (rSlL g.K) := by rw [← A.K]; exact sl_list
theorem slB {X : Cx} (A : At g l X) : SlR X (rSlA g.K) := by rw [← A.K]; exact sl_tupA
variable {k : Nat} {p2 p3 : Pos}
theorem x_slL_to (h : XE g l M G a (tLs ts)) (hb : XE g l M G b (tIn (k : Int))) : XE g l M G (.Subscript a (.Slice none (some b) none p2) pos) (tLs (ts.take k)) := fun X A =>
  conv (pe_slice (slA A) (h X A) po_none (po_some (hb X A))) fun σ H Q ⟨S, pr, q⟩ => tE.step pr fun v S1 H1 q1 p1 h1 => tE.step p1 fun w S2 H2 q2 p2 h2 => by
    obtain ⟨c, vs, rfl, h3, h4⟩ := h1
    cases h2
    refine ⟨(k : Int), rfl, c, vs, rfl, SqL.of (p2.1 _ _ (q2.1.ss _ _ h3)), fun y hy => ?_⟩
    rw [cut_to]
    have gr := Gr.new (o := .lst (vs.take k)) p2.1 hy
    exact q _ _ _ ((q1.trans q2).trans (Post.of p2.2.1 gr)) ⟨y, _, rfl, upd_same, (h4.take k).mono (q2.1.ss.comp gr.ss)⟩
theorem x_slL_from (h : XE g l M G a (tLs ts)) (hb : XE g l M G b (tIn (k : Int))) : XE g l M G (.Subscript a (.Slice (some b) none none p2) pos) (tLs (ts.drop k)) := fun X A =>
  conv (pe_slice (slA A) (h X A) (po_some (hb X A)) po_none) fun σ H Q ⟨S, pr, q⟩ => tE.step pr fun v S1 H1 q1 p1 h1 => tE.step p1 fun w S2 H2 q2 p2 h2 => by
    obtain ⟨c, vs, rfl, h3, h4⟩ := h1
    cases h2
    refine ⟨(k : Int), rfl, c, vs, rfl, SqL.of (p2.1 _ _ (q2.1.ss _ _ h3)), fun y hy => ?_⟩
    rw [cut_from]
    have gr := Gr.new (o := .lst (vs.drop k)) p2.1 hy
    exact q _ _ _ ((q1.trans q2).trans (Post.of p2.2.1 gr)) ⟨y, _, rfl, upd_same, (h4.drop k).mono (q2.1.ss.comp gr.ss)⟩
theorem x_slT_to (h : XE g l M G a (tTu ts)) (hb : XE g l M G b (tIn (k : Int))) : XE g l M G (.Subscript a (.Slice none (some b) none p2) pos) (tTu (ts.take k)) := fun X A =>
  conv (pe_slice (slB A) (h X A) po_none (po_some (hb X A))) fun σ H Q ⟨S, pr, q⟩ => tE.step pr fun v S1 H1 q1 p1 h1 => tE.step p1 fun w S2 H2 q2 p2 h2 => by
    obtain ⟨c, vs, rfl, h3, h4⟩ := h1
    cases h2
    have h3' := q2.1.ss _ _ h3
    refine ⟨(k : Int), rfl, c, vs, rfl, SqT.of (p2.1 _ _ h3'), fun z => ?_, fun _ y hy => ?_⟩
    · refine q _ S2 H2 (q1.trans q2) ⟨c, vs, rfl, h3', ?_⟩
      have z2 : vs.take k = vs := by
        rw [← cut_to]
        unfold cutV
        rw [z.1, z.2]
        simp
      rw [← z2]
      exact (h4.take k).mono q2.1.ss
    · rw [cut_to]
      have gr := Gr.new (o := .tup (vs.take k)) p2.1 hy
      exact q _ _ _ ((q1.trans q2).trans (Post.of p2.2.1 gr)) ⟨y, _, rfl, upd_same, (h4.take k).mono (q2.1.ss.comp gr.ss)⟩
theorem x_slT_from (h : XE g l M G a (tTu ts)) (hb : XE g l M G b (tIn (k : Int))) : XE g l M G (.Subscript a (.Slice (some b) none none p2) pos) (tTu (ts.drop k)) := fun X A =>
  conv (pe_slice (slB A) (h X A) (po_some (hb X A)) po_none) fun σ H Q ⟨S, pr, q⟩ => tE.step pr fun v S1 H1 q1 p1 h1 => tE.step p1 fun w S2 H2 q2 p2 h2 => by
    obtain ⟨c, vs, rfl, h3, h4⟩ := h1
    cases h2
    have h3' := q2.1.ss _ _ h3
    refine ⟨(k : Int), rfl, c, vs, rfl, SqT.of (p2.1 _ _ h3'), fun z => ?_, fun _ y hy => ?_⟩
    · refine q _ S2 H2 (q1.trans q2) ⟨c, vs, rfl, h3', ?_⟩
      have z2 : vs.drop k = vs := by
        rw [← cut_from]
        unfold cutV
        rw [z.1, z.2]
        simp
      rw [← z2]
      exact (h4.drop k).mono q2.1.ss
    · rw [cut_from]
      have gr := Gr.new (o := .tup (vs.drop k)) p2.1 hy
      exact q _ _ _ ((q1.trans q2).trans (Post.of p2.2.1 gr)) ⟨y, _, rfl, upd_same, (h4.drop k).mono (q2.1.ss.comp gr.ss)⟩
/-- t + u of tuples -/
theorem x_catT (ha : XE g l M G a (tTu ts)) (hb : XE g l M G b (tTu us)) (hl : ts.length + us.length ≤ 100000) : XE g l M G (.BinOp a .Add b pos) (tTu (ts ++ us)) := x_op (t := tTu ts) (u := tTu us) (f := rCatA g.K) (fun X A => by rw [← A.K]; exact op_catA) (fun S H x y Q e ⟨c, vs, h1, h2, h3⟩ ⟨d, ws, k1, k2, k3⟩ q => by
  subst h1 k1
  refine ⟨c, d, vs, ws, rfl, rfl, SqT.of (e _ _ h2), SqT.of (e _ _ k2), ?_, fun z => ?_, fun _ z => ?_, fun _ _ w hw => ?_⟩
  · rw [← h3.len, ← k3.len]; exact Nat.le_trans hl (by decide)
  · subst z
    exact q _ S H (Gr.refl e) ⟨d, ws, rfl, k2, h3.app k3⟩
  · subst z
    exact q _ S H (Gr.refl e) ⟨c, vs, rfl, h2, by have := h3.app k3; rw [List.append_nil] at this; exact this⟩
  · have gr := Gr.new (o := .tup (vs ++ ws)) e hw
    exact q _ _ _ gr ⟨w, _, rfl, upd_same, (h3.app k3).mono gr.ss⟩) ha hb
/-- xs + ys of lists -/
theorem x_catL (ha : XE g l M G a (tLs ts)) (hb : XE g l M G b (tLs us)) (hl : ts.length + us.length ≤ 100000) : XE g l M G (.BinOp a .Add b pos) (tLs (ts ++ us)) := x_op (t := tLs ts) (u := tLs us) (f := rCat) (fun X A => op_cat) (fun S H x y Q e ⟨c, vs, h1, h2, h3⟩ ⟨d, ws, k1, k2, k3⟩ q => by
  subst h1 k1
  refine ⟨c, d, vs, ws, rfl, rfl, e _ _ h2, e _ _ k2, ?_, fun w hw => ?_⟩
  · rw [← h3.len, ← k3.len]; exact Nat.le_trans hl (by decide)
  · have gr := Gr.new (o := .lst (vs ++ ws)) e hw
    exact q _ _ _ gr ⟨w, _, rfl, upd_same, (h3.app k3).mono gr.ss⟩) ha hb

/-! comprehensions over data -/
theorem picked_map {α : Type} {xs : List α} {f : α → Bool} {U : α → Ty} {h : Nat → Bool} {u : Nat → Ty} (hu : ∀ i x, xs[i]? = some x → u i = U x) (hh : ∀ i x, xs[i]? = some x → h i = f x) : picked xs.length h u = (xs.filter f).map U := by
  have key : ∀ k, k ≤ xs.length → picked k h u = ((xs.take k).filter f).map U := by
    intro k
    induction k with
    | zero => intro _; rfl
    | succ k ih =>
      intro hk
      have hx : xs[k]? = some xs[k] := List.getElem?_eq_getElem (by omega)
      rw [List.take_add_one, hx, Option.toList_some, List.filter_append, List.map_append, ← ih (by omega)]
      cases e : f xs[k] with
      | true => rw [picked_yes (by rw [hh k _ hx, e]), hu k _ hx]; simp [e]
      | false => rw [picked_no (by rw [hh k _ hx, e])]; simp [e]
  rw [key xs.length (Nat.le_refl _), List.take_length]
def atOr {α β : Type} (xs : List α) (f : α → β) (d : β) (i : Nat) : β := match xs[i]? with
  | some x => f x
  | none => d
theorem atOr_eq {α β : Type} {xs : List α} {f : α → β} {d : β} {i : Nat} {x : α} (h : xs[i]? = some x) : atOr xs f d i = f x := by unfold atOr; rw [h]
theorem map_get {α : Type} {xs : List α} {T : α → Ty} {i : Nat} {t : Ty} (h : (xs.map T)[i]? = some t) : ∃ x, xs[i]? = some x ∧ x ∈ xs ∧ t = T x := by
  rw [List.getElem?_map] at h
  obtain ⟨x, hx, rfl⟩ := Option.map_eq_some_iff.mp h
  exact ⟨x, hx, List.mem_of_getElem? hx, rfl⟩
theorem x_lcD {α : Type} {xs : List α} {T U : α → Ty} {f : α → Bool} {vs : List Nat} {G1 : α → List Slot} (hi : XI g l M G tg iter (xs.map T)) (hvs : vs = own.map (·.2)) (ok : BlkOk l.N l.sc scope own) (hz : xs.length ≤ 100000)
    (hg : ∀ x, x ∈ xs → XG g (l.blk scope) M (wipeG G vs) vs tg (T x) (G1 x)) (ht : ∀ x, x ∈ xs → XTs g (l.blk scope) M (G1 x) ifs (fun b => b = f x)) (he : ∀ x, x ∈ xs → f x = true → XE g (l.blk scope) M (G1 x) elt (U x))
    (hs : ∀ env x, foldedSetIterable iter env x = pure x := by intro _ _; rfl) : XE g l M G (.ListComp elt [⟨tg, iter, ifs, 0⟩] scope pos) (tLs ((xs.filter f).map U)) := by
  refine x_sub (x_lc (G1 := atOr xs G1 []) (B := fun i b => ∀ x, xs[i]? = some x → b = f x) (u := atOr xs U tNon) hvs hi ok (by rw [List.length_map]; exact hz) (fun i t h => ?_) (fun i t h => ?_) (fun i t h hb => ?_) hs) fun S v ⟨k, h1, h2⟩ => ?_
  · obtain ⟨x, hx, hm, rfl⟩ := map_get h
    rw [atOr_eq hx]
    exact hg x hm
  · obtain ⟨x, hx, hm, rfl⟩ := map_get h
    rw [atOr_eq hx]
    intro X A
    exact convTs (ht x hm X A) fun σ H Q ⟨S, pr, q⟩ => ⟨S, pr, fun c S' H' q1 hc => q c S' H' q1 fun y hy => by rw [hx] at hy; cases hy; exact hc⟩
  · obtain ⟨x, hx, hm, rfl⟩ := map_get h
    rw [atOr_eq hx, atOr_eq hx]
    exact he x hm (hb x hx).symm
  · rw [List.length_map] at h1 h2
    rw [← picked_map (h := k) (u := atOr xs U tNon) (fun i x hx => atOr_eq hx) (fun i x hx => h1 i (List.getElem?_eq_some_iff.mp hx).1 x hx)]
    exact h2
/-- without tests -/
theorem x_lcA {α : Type} {xs : List α} {T U : α → Ty} {vs : List Nat} {G1 : α → List Slot} (hi : XI g l M G tg iter (xs.map T)) (hvs : vs = own.map (·.2)) (ok : BlkOk l.N l.sc scope own) (hz : xs.length ≤ 100000)
    (hg : ∀ x, x ∈ xs → XG g (l.blk scope) M (wipeG G vs) vs tg (T x) (G1 x)) (he : ∀ x, x ∈ xs → XE g (l.blk scope) M (G1 x) elt (U x))
    (hs : ∀ env x, foldedSetIterable iter env x = pure x := by intro _ _; rfl) : XE g l M G (.ListComp elt [⟨tg, iter, [], 0⟩] scope pos) (tLs (xs.map U)) := by
  have h := x_lcD (f := fun _ => true) (pos := pos) (elt := elt) (ifs := []) hi hvs ok hz hg (fun x _ => xts_nil) (fun x hx _ => he x hx) hs
  rw [List.filter_eq_self.mpr fun _ _ => rfl] at h
  exact h
end
end Z
end

section
/-! Z7: truths that are told; data by its encoding. -/
namespace Z
open PySem PySem.Spec L2
section
variable {ι : Type} {g : Gc} {l : Lc} {M : Md} {G : List Slot} {pos p tpos p0 p1 : Pos} {e a b c tg iter elt : Expr} {es ifs rest : List Expr} {t u r : Ty} {ts us : List Ty} {d f : PyData} {n m : Nat} {x y : Bool}
abbrev XTb (g : Gc) (l : Lc) (M : Md) (G : List Slot) (e : Expr) (x : Bool) : Prop := XT g l M G e (fun y => y = x)
abbrev XWb (g : Gc) (l : Lc) (M : Md) (G : List Slot) (e : Expr) (x : Bool) : Prop := XW g l M G e (fun y => y = x)
theorem sub_b1 : Sub (tBl x) (tEx (fun y => y = x) tBl) := sub_bl rfl
theorem sub_b2 : Sub (tEx (fun y => y = x) tBl) (tBl x) := fun S v ⟨k, h1, h2⟩ => by subst h1; exact h2
theorem x_andB (h : XE g l M G a (tBl x)) (k : x = true → XE g l M G (.BoolOp .And (b :: rest) pos) (tBl y)) : XE g l M G (.BoolOp .And (a :: b :: rest) pos) (tBl (x && y)) :=
  x_sub (x_and (d := fun z => z = y) (x_sub h sub_b1) fun e => x_sub (k e.symm) sub_b1) fun S v ⟨z, h1, h2⟩ => by
    rcases h1 with ⟨h1, h3⟩ | ⟨h1, h3⟩
    · rw [← h1, ← h3, Bool.true_and]; exact h2
    · rw [← h1, Bool.false_and, ← h3]; exact h2
theorem x_orB (h : XE g l M G a (tBl x)) (k : x = false → XE g l M G (.BoolOp .Or (b :: rest) pos) (tBl y)) : XE g l M G (.BoolOp .Or (a :: b :: rest) pos) (tBl (x || y)) :=
  x_sub (x_or (d := fun z => z = y) (x_sub h sub_b1) fun e => x_sub (k e.symm) sub_b1) fun S v ⟨z, h1, h2⟩ => by
    rcases h1 with ⟨h1, h3⟩ | ⟨h1, h3⟩
    · rw [← h1, ← h3, Bool.false_or]; exact h2
    · rw [← h1, Bool.true_or, ← h3]; exact h2
theorem x_notB (h : XE g l M G a (tBl x)) : XE g l M G (.UnaryOp .Not a pos) (tBl (!x)) := x_sub (x_not (c := fun y => y = x) (x_sub h sub_b1)) fun S v ⟨z, h1, h2⟩ => by
  have h1 : (!z) = x := h1
  rw [← h1, Bool.not_not]; exact h2
theorem xt_notB (h : XTb g l M G a x) : XTb g l M G (.UnaryOp .Not a pos) (!x) := xt_sub (xt_not h) fun z h1 => by
  rw [← (show (!z) = x from h1), Bool.not_not]
theorem xw_andB (h : XTb g l M G a x) (k : x = true → XWb g l M G (.BoolOp .And (b :: rest) pos) y) : XWb g l M G (.BoolOp .And (a :: b :: rest) pos) (x && y) := fun X A =>
  convW ((xw_and h fun e => k e.symm) X A) fun σ H Q ⟨S, pr, q⟩ => ⟨S, pr, fun z S' H' q1 h1 => q z S' H' q1 (by
    rcases h1 with ⟨h1, h3⟩ | ⟨h1, h3⟩
    · rw [← h1, h3, Bool.true_and]
    · rw [← h1, h3, Bool.false_and])⟩
theorem xw_orB (h : XTb g l M G a x) (k : x = false → XWb g l M G (.BoolOp .Or (b :: rest) pos) y) : XWb g l M G (.BoolOp .Or (a :: b :: rest) pos) (x || y) := fun X A =>
  convW ((xw_or h fun e => k e.symm) X A) fun σ H Q ⟨S, pr, q⟩ => ⟨S, pr, fun z S' H' q1 h1 => q z S' H' q1 (by
    rcases h1 with ⟨h1, h3⟩ | ⟨h1, h3⟩
    · rw [← h1, h3, Bool.false_or]
    · rw [← h1, h3, Bool.true_or])⟩
theorem x_is {v w : V} (h : XE g l M G e (cst v)) (q : v = w) : XE g l M G e (cst w) := by rw [← q]; exact h
theorem xt_is (h : XTb g l M G e x) (q : x = y) : XTb g l M G e y := by rw [← q]; exact h

/-- a type whose values are data, told apart by == -/
structure Enc (α : Type) [DecidableEq α] (T : α → Ty) (d : α → PyData) (n : Nat) : Prop where
  isD : ∀ x, Z.isD (T x) (d x)
  dt : ∀ x, Dt (d x) n
  eqv : ∀ x y, PyData.eqv (d x) (d y) = decide (x = y)
variable {α β : Type} [DecidableEq α] [DecidableEq β] {T : α → Ty} {U : β → Ty} {dT : α → PyData} {dU : β → PyData}
theorem Enc.tup (E : Enc α T dT n) : Enc (List α) (fun l => tTu (l.map T)) (fun l => .tuple (l.map dT)) (n + 1) where
  isD := fun l => isD_tu (isDs_map E.isD l)
  dt := fun l => dt_tup fun d hd => by
    obtain ⟨x, _, rfl⟩ := List.mem_map.mp hd
    exact E.dt x
  eqv := eqv_tup E.eqv
theorem Enc.lst (E : Enc α T dT n) : Enc (List α) (fun l => tLs (l.map T)) (fun l => .list (l.map dT)) (n + 1) where
  isD := fun l => isD_ls (isDs_map E.isD l)
  dt := fun l => dt_lst fun d hd => by
    obtain ⟨x, _, rfl⟩ := List.mem_map.mp hd
    exact E.dt x
  eqv := eqv_lst E.eqv
theorem Enc.pair (E : Enc α T dT n) (F : Enc β U dU n) : Enc (α × β) (fun p => tTu [T p.1, U p.2]) (fun p => .tuple [dT p.1, dU p.2]) (n + 1) where
  isD := fun p => isD_tu ⟨E.isD _, F.isD _, trivial⟩
  dt := fun p => dt_tup fun d hd => by
    simp only [List.mem_cons, List.not_mem_nil, or_false] at hd
    rcases hd with rfl | rfl
    · exact E.dt _
    · exact F.dt _
  eqv := fun p q => eqv_pair E.eqv F.eqv _ _ _ _
theorem Enc.mono (E : Enc α T dT n) (h : n ≤ m) : Enc α T dT m := ⟨E.isD, fun x => (E.dt x).mono h, E.eqv⟩
theorem Enc.comp {γ : Type} [DecidableEq γ] (E : Enc α T dT n) (h : γ → α) (hi : ∀ x y, h x = h y → x = y) : Enc γ (fun x => T (h x)) (fun x => dT (h x)) n := ⟨fun x => E.isD _, fun x => E.dt _, fun x y => by
  rw [E.eqv]
  by_cases q : x = y
  · simp [q]
  · rw [decide_eq_false q, decide_eq_false fun z => q (hi _ _ z)]⟩
theorem x_eqE (E : Enc α T dT n) {x y : α} (ha : XE g l M G a (T x)) (hb : XE g l M G b (T y)) (hn : n ≤ 60 := by decide) : XE g l M G (.Compare a [.Eq] [b] pos) (tBl (decide (x = y))) := x_is (x_eq (E.isD x) (E.isD y) (E.dt x) (E.dt y) ha hb (by omega) (by omega)) (by rw [E.eqv])
theorem x_neE (E : Enc α T dT n) {x y : α} (ha : XE g l M G a (T x)) (hb : XE g l M G b (T y)) (hn : n ≤ 60 := by decide) : XE g l M G (.Compare a [.NotEq] [b] pos) (tBl (!decide (x = y))) := x_is (x_ne (E.isD x) (E.isD y) (E.dt x) (E.dt y) ha hb (by omega) (by omega)) (by rw [E.eqv])
theorem xt_eqE (E : Enc α T dT n) {x y : α} (ha : XE g l M G a (T x)) (hb : XE g l M G b (T y)) (hn : n ≤ 60 := by decide) : XTb g l M G (.Compare a [.Eq] [b] pos) (decide (x = y)) := xt_is (xt_eq (E.isD x) (E.isD y) (E.dt x) (E.dt y) ha hb (by omega) (by omega)) (by rw [E.eqv])
theorem xt_neE (E : Enc α T dT n) {x y : α} (ha : XE g l M G a (T x)) (hb : XE g l M G b (T y)) (hn : n ≤ 60 := by decide) : XTb g l M G (.Compare a [.NotEq] [b] pos) (!decide (x = y)) := xt_is (xt_ne (E.isD x) (E.isD y) (E.dt x) (E.dt y) ha hb (by omega) (by omega)) (by rw [E.eqv])
theorem Enc.seqT (E : Enc α T dT n) (l : List α) : isSeq (tTu (l.map T)) (l.map dT) := .inl (isD_tu (isDs_map E.isD l))
theorem Enc.seqL (E : Enc α T dT n) (l : List α) : isSeq (tLs (l.map T)) (l.map dT) := .inr (isD_ls (isDs_map E.isD l))
theorem Enc.all (E : Enc α T dT n) (l : List α) : ∀ x ∈ l.map dT, Dt x n := fun d hd => by
  obtain ⟨x, _, rfl⟩ := List.mem_map.mp hd
  exact E.dt x
theorem x_inT (E : Enc α T dT n) {x : α} {xs : List α} (ha : XE g l M G a (T x)) (hb : XE g l M G b (tTu (xs.map T))) (hn : n ≤ 60 := by decide) (hm : behindInMarks .In b = false := by rfl) : XE g l M G (.Compare a [.In] [b] pos) (tBl (decide (x ∈ xs))) := x_is (x_in (E.isD x) (E.seqT xs) (E.dt x) (E.all xs) ha hb hn hm) (by rw [any_mem E.eqv])
theorem x_inL (E : Enc α T dT n) {x : α} {xs : List α} (ha : XE g l M G a (T x)) (hb : XE g l M G b (tLs (xs.map T))) (hn : n ≤ 60 := by decide) (hm : behindInMarks .In b = false := by rfl) : XE g l M G (.Compare a [.In] [b] pos) (tBl (decide (x ∈ xs))) := x_is (x_in (E.isD x) (E.seqL xs) (E.dt x) (E.all xs) ha hb hn hm) (by rw [any_mem E.eqv])
theorem x_niT (E : Enc α T dT n) {x : α} {xs : List α} (ha : XE g l M G a (T x)) (hb : XE g l M G b (tTu (xs.map T))) (hn : n ≤ 60 := by decide) (hm : behindInMarks .NotIn b = false := by rfl) : XE g l M G (.Compare a [.NotIn] [b] pos) (tBl (!decide (x ∈ xs))) := x_is (x_ni (E.isD x) (E.seqT xs) (E.dt x) (E.all xs) ha hb hn hm) (by rw [any_mem E.eqv])
theorem xt_inT (E : Enc α T dT n) {x : α} {xs : List α} (ha : XE g l M G a (T x)) (hb : XE g l M G b (tTu (xs.map T))) (hn : n ≤ 60 := by decide) (hm : behindInMarks .In b = false := by rfl) : XTb g l M G (.Compare a [.In] [b] pos) (decide (x ∈ xs)) := xt_is (xt_in (E.isD x) (E.seqT xs) (E.dt x) (E.all xs) ha hb hn hm) (by rw [any_mem E.eqv])
theorem xt_niT (E : Enc α T dT n) {x : α} {xs : List α} (ha : XE g l M G a (T x)) (hb : XE g l M G b (tTu (xs.map T))) (hn : n ≤ 60 := by decide) (hm : behindInMarks .NotIn b = false := by rfl) : XTb g l M G (.Compare a [.NotIn] [b] pos) (!decide (x ∈ xs)) := xt_is (xt_ni (E.isD x) (E.seqT xs) (E.dt x) (E.all xs) ha hb hn hm) (by rw [any_mem E.eqv])
theorem xt_niL (E : Enc α T dT n) {x : α} {xs : List α} (ha : XE g l M G a (T x)) (hb : XE g l M G b (tLs (xs.map T))) (hn : n ≤ 60 := by decide) (hm : behindInMarks .NotIn b = false := by rfl) : XTb g l M G (.Compare a [.NotIn] [b] pos) (!decide (x ∈ xs)) := xt_is (xt_ni (E.isD x) (E.seqL xs) (E.dt x) (E.all xs) ha hb hn hm) (by rw [any_mem E.eqv])
end
/-! a sign of a text -/
section
variable {g : Gc} {l : Lc} {M : Md} {G : List Slot} {pos p tpos : Pos} {e a b tg : Expr} {t u : Ty} {ts us : List Ty}
def sgn (c : Nat) : Str := ⟨#[c]⟩
theorem walk_str {S : Hp} {x : Str} : Walk (Its x) S (x.cps.toList.map fun c => tSt (sgn c)) where
  go := fun S' H' i t e1 e2 hi => by
    rw [List.getElem?_map] at hi
    obtain ⟨c, hc, rfl⟩ := Option.map_eq_some_iff.mp hi
    rw [Array.getElem?_toList] at hc
    refine ⟨(Array.getElem?_eq_some_iff.mp hc).1, fun y H2 hy => ?_⟩
    obtain ⟨y1, d, y2, y3⟩ := hy
    subst y1 y3
    rw [hc] at y2
    cases y2
    exact ⟨S', Gr.refl e2, rfl⟩
  stop := fun S' H' e1 e2 => by
    show x.cps.size ≤ _
    rw [List.length_map, Array.length_toList]
    exact Nat.le_refl _
end
end Z
end

section
/-! Z8: comprehensions of any kind, of any number of clauses. -/
namespace Z
open PySem PySem.Spec L2 PyProof.Rows
abbrev nix : Value → Shared → Prop := fun _ _ => False
abbrev TB := (L2.St → Hp → Prop) → L2.St → Hp → Prop
/-- code of a block that gives nothing -/
structure PB (X : Cx) (m : Sem Unit) (t : TB) : Prop where
  run : ∀ (pins : List (Addr × Obj)) (s : Shared) (σ : L2.St) (H : Hp) (D : L2.St → Hp → Prop), Inv X pins σ H s → t D σ H → wpAny (model X.prog X.w) X.A m (fun _ s' => ∃ σ' H', Inv X pins σ' H' s' ∧ D σ' H') nix s
/-- clause lvl of the comprehension C, as the interpreter turns it -/
structure Cl (X : Cx) (C : Expr) (lvl : Nat) (acc : Value) (tg iter : Expr) (ifs : List Expr) (body : Sem Unit) : Prop where
  turn : ∀ it, compTurn C lvl it acc X.env = (do
      standAt iter.pos
      match ← pyNext it with
      | none => pure (.done .next)
      | some v =>
        letOwnedTupleGo tg it v
        assign tg X.env v
        let mut ok := true
        for c in ifs do
          if ok then ok ← isTrue c X.env (eval c X.env)
        if ok then
          body
        again (.compLoop C lvl it acc X.env))
  cls : (clausesOf C)[lvl]? = some ⟨tg, iter, ifs, 0⟩
  ul : ∀ it, X.A.under (.compLoop C lvl it acc X.env) = X.A
  us : ∀ it, X.A.under (.compStart C lvl it acc X.env) = X.A
  fl : ∀ it, (Code.compLoop C lvl it acc X.env).isFrame = false
  fs : ∀ it, (Code.compStart C lvl it acc X.env).isFrame = false
section
variable {X : Cx} {C : Expr} {lvl : Nat} {acc it : Value} {tg iter : Expr} {ifs : List Expr} {body : Sem Unit} {R : Result → Shared → Prop} {s : Shared}
theorem cl_loop (c : Cl X C lvl acc tg iter ifs body) (I : Nat → Shared → Prop)
    (turn : ∀ n s, I n s → wpAny (model X.prog X.w) X.A (pyNext it) (fun r s1 => match r with
      | none => R (.ok .next) s1
      | some v => wpAny (model X.prog X.w) X.A (letOwnedTupleGo tg it v) (fun _ s2 => wpAny (model X.prog X.w) X.A (assign tg X.env v) (fun _ s3 =>
          wpAny (model X.prog X.w) X.A (forIn ifs true fun c r => if r = true then do let ok ← isTrue c X.env (eval c X.env); pure (ForInStep.yield ok) else pure (ForInStep.yield r)) (fun ok s4 =>
            if ok = true then wpAny (model X.prog X.w) X.A body (fun _ s5 => ∃ m, m < n ∧ I m s5) nix s4 else ∃ m, m < n ∧ I m s4) nix s3) nix s2) nix s1) nix s) (n : Nat) (h : I n s) :
    codeAny (model X.prog X.w) X.A (.compLoop C lvl it acc X.env) R s := by
  refine codeAny_loop rfl I (fun n s hI => ?_) n h
  rw [c.ul it]
  show wpAny _ X.A (if (Code.compLoop C lvl it acc X.env).isFrame then (compTurn C lvl it acc X.env).onRaise (leaving X.env) else (compTurn C lvl it acc X.env).onRaise (fun x => do noteFrame x X.env; theTreesLotGoes x)) _ _ s
  rw [c.fl it, if_neg Bool.false_ne_true]
  refine wpAny_noted ?_
  rw [c.turn it]
  refine wpAny_bind (wpAny_standAt (wpAny_bind (thnF (turn n s hI) fun r s1 h1 => ?_)))
  cases r with
  | none => exact wpAny_pure h1
  | some v =>
    refine wpAny_bind (thnF h1 fun _ s2 h2 => wpAny_bind (thnF h2 fun _ s3 h3 => wpAny_bind (thnF h3 fun ok s4 h4 => ?_)))
    cases ok with
    | false => exact wpAny_pure ⟨rfl, h4⟩
    | true => exact wpAny_bind (thnF h4 fun _ s5 h5 => wpAny_pure ⟨rfl, h5⟩)
theorem cl_start (c : Cl X C lvl acc tg iter ifs body) (h0 : codeAny (model X.prog X.w) X.A (.compLoop C lvl it acc X.env) R s)
    (h : wpAny (model X.prog X.w) X.A (pyIter it) (fun it' s' => codeAny (model X.prog X.w) X.A (.compLoop C lvl it' acc X.env) R s') nix s) : codeAny (model X.prog X.w) X.A (.compStart C lvl it acc X.env) R s := by
  refine codeAny_of_tree ?_
  rw [c.us it]
  show wpAny _ _ (if (Code.compStart C lvl it acc X.env).isFrame then (compStart C lvl it acc X.env).onRaise (leaving X.env) else (compStart C lvl it acc X.env).onRaise (fun x => do noteFrame x X.env; standAt theWindowsPlace)) _ _ s
  rw [c.fs it, if_neg Bool.false_ne_true]
  refine wpAny_notedAt ?_
  unfold compStart
  rw [c.cls]
  show wpAny _ _ (ask >>= _) _ _ s
  refine wpAny_bind (wpAny_askSetting (wpAny_ite ?_))
  split
  · first
      | exact wpAny_pure ⟨rfl, h0⟩
      | exact wpAny_bind (wpAny_pure (wpAny_pure ⟨rfl, h0⟩))
  · refine wpAny_bind (wpAny_rule ?_)
    show wpAny _ _ (standAt iter.pos >>= _) _ _ s
    exact wpAny_bind (wpAny_standAt (wpAny_bind (thnF h fun it' s' h' => wpAny_pure ⟨rfl, h'⟩)))

/-- a clause's turns: W by the turn, a measure and the heap; D what is reached -/
def tK (vs : List Nat) (g : TG) (tt : TT) (tb : TB) (J : It) : TB := fun D σ H => ∃ W : Nat → Nat → Hp → Prop, (∃ m, W 0 m H) ∧ ∀ i m H, W i m H →
  (J.stop i H ∧ D (wipe σ vs) H) ∨ (J.go i H ∧ ∃ Nx : Hp → Prop, (∀ H', Nx H' → ∃ m', m' < m ∧ W (i + 1) m' H') ∧ ∀ x H', J.yld i H x H' → g x (wipe σ vs) H' fun σ2 H2 => wipe σ2 vs = wipe σ vs ∧ tt σ2 H2 fun b H3 =>
    if b = true then tb (fun σ4 H4 => wipe σ4 vs = wipe σ vs ∧ Nx H4) σ2 H3 else Nx H3)
/-- what a clause's run is to reach -/
def Rch (X : Cx) (pins : List (Addr × Obj)) (D : L2.St → Hp → Prop) (r : Result) (s' : Shared) : Prop := match r with
  | .ok _ => ∃ σ' H', Inv X pins σ' H' s' ∧ D σ' H'
  | .error _ => False
theorem cl_run {vs : List Nat} {g : TG} {tt : TT} {tb : TB} (c : Cl X C lvl acc tg iter ifs body) (hx : X.xe = nix) (hc : X.calm = true) (pg : PG X tg g) (pt : PTs X ifs tt) (pb : PB X body tb) {pins : List (Addr × Obj)} {σ : L2.St} {H : Hp} {D : L2.St → Hp → Prop} {a : Addr} {fp : List Addr} {tn : Nat → Heap → Prop} {J : It}
    (I : Inv X pins σ H s) (T : Turn X.prog X.w X.K tg J fp a tn) (st : tn 0 s.heap) (hf : ∀ b ∈ fp, FpOk X pins H b) (h : tK vs g tt tb J D σ H) : codeAny (model X.prog X.w) X.A (.compStart C lvl (.ref a) acc X.env) (Rch X pins D) s := by
  obtain ⟨W, ⟨m0, w0⟩, turn⟩ := h
  have keepF : ∀ {H' : Hp}, (∀ b ∈ fp, H' b = none) → ∀ b ∈ fp, FpOk X pins H' b := fun hn b hb => ⟨hn b hb, (hf b hb).2⟩
  have pg := pg.run
  have pt := pt.run
  rw [hx] at pg pt
  have loop : codeAny (model X.prog X.w) X.A (.compLoop C lvl (.ref a) acc X.env) (Rch X pins D) s := by
    refine cl_loop c (fun n s' => ∃ i H', Inv X pins (wipe σ vs) H' s' ∧ tn i s'.heap ∧ (∀ b ∈ fp, H' b = none) ∧ W i n H') ?_ m0 ⟨0, H, I.weak (wipe_length ..) (fun j v e => (wipe_some e).1), st, fun b hb => (hf b hb).1, w0⟩
    rintro n s5 ⟨i, H5, I5, st5, n5, w5⟩
    rcases turn i n H5 w5 with ⟨stop, dn⟩ | ⟨go, Nx, hNx, step⟩
    · refine thnF (T.done X rfl rfl rfl hc i pins s5 _ H5 nix I5 (keepF n5) st5 stop) fun r s6 ⟨hr, I6⟩ => ?_
      subst hr
      exact ⟨_, H5, I6, dn⟩
    · refine thnF (T.item X rfl rfl rfl hc i pins s5 _ H5 nix I5 (keepF n5) st5 go) fun r s6 ⟨u, hr, h6⟩ => ?_
      subst hr
      refine thnF h6 fun _ s7 ⟨x, H7, I7, r7, y7, st7, n7⟩ => ?_
      have ob := T.obj _ _ st7
      have I8 := I7.pinned (keepF n7) ob
      have fin : ∀ {σ' : L2.St} {s' : Shared} {H' : Hp}, Inv X (pins ++ pinsAt fp s7.heap) σ' H' s' → wipe σ' vs = wipe σ vs → Nx H' → ∃ m, m < n ∧ ∃ i H', Inv X pins (wipe σ vs) H' s' ∧ tn i s'.heap ∧ (∀ b ∈ fp, H' b = none) ∧ W i m H' := by
        intro σ' s' H' I' hw nx
        obtain ⟨m', hm, w'⟩ := hNx H' nx
        have there : ∀ b ∈ fp, ∀ o, s7.heap.get? b = some o → s'.heap.get? b = some o ∧ H' b = none := fun b hb o e => by
          have z := I'.pin (b, o) (List.mem_append_right _ (List.mem_append_right _ (mem_pinsAt hb e)))
          exact ⟨z.1, z.2.1⟩
        refine ⟨m', hm, i + 1, H', I'.unpinned.weak (by rw [← hw, wipe_length]) (fun j v e => ?_), T.keep _ _ _ st7 fun b hb o e => (there b hb o e).1, fun b hb => ?_, w'⟩
        · rw [← hw] at e
          exact (wipe_some e).1
        · obtain ⟨o, e, _⟩ := ob b hb
          exact (there b hb o e).2
      refine thnF (pg _ s7 _ H7 x u _ I8 r7 (step x H7 y7)) fun _ s8 ⟨σ8, H8, I9, hw, q8⟩ => ?_
      refine thnF (pt _ s8 σ8 H8 _ I9 q8) fun b s9 ⟨H9, I10, q9⟩ => ?_
      cases b with
      | false => rw [if_neg Bool.false_ne_true] at q9 ⊢; exact fin I10 hw q9
      | true =>
        rw [if_pos rfl] at q9 ⊢
        exact thnF (pb.run _ s9 σ8 H9 _ I10 q9) fun _ s10 ⟨σ', H', I', hw', nx⟩ => fin I' hw' nx
  exact cl_start c loop (T.self X.A 0 _ _ _ st loop)
/-- the step of an outer clause: the inner clause's run -/
theorem pb_in {tg1 iter1 : Expr} {ifs1 : List Expr} {body1 : Sem Unit} {wi : TI} {vs : List Nat} {g : TG} {tt : TT} {tb : TB} (c : Cl X C lvl acc tg1 iter1 ifs1 body1) (hx : X.xe = nix) (hc : X.calm = true) (hi : PI X tg1 iter1 wi) (pg : PG X tg1 g) (pt : PTs X ifs1 tt) (pb : PB X body1 tb) (hs : ∀ env x, foldedSetIterable iter1 env x = pure x) :
    PB X (do
      let x ← eval iter1 X.env
      standAt iter1.pos
      let x ← foldedSetIterable iter1 X.env x
      let _ ← runOwn (.compStart C lvl (← holding [x] (pyIter x)) acc X.env) X.env
      pure ()) (fun D σ H => wi σ H fun J H1 => tK vs g tt tb J D σ H1) := by
  refine ⟨fun pins s σ H D I h => ?_⟩
  have hi := hi.run
  rw [hx] at hi
  refine wpAny_bind (thnF (hi pins s σ H _ I h) fun v s1 h1 => wpAny_bind (wpAny_standAt (wpAny_bind (wpAny_of_eq (hs _ v) (wpAny_bind (wpAny_holding (thnF h1 fun itv s2 h2 => ?_)))))))
  obtain ⟨it, fp, tn, J, H2, e, I2, T, st2, f2, q⟩ := h2
  subst e
  refine wpAny_bind (wpAny_runOwn ?_)
  rw [Around.mark_none]
  refine codeAny_mono (cl_run c hx hc pg pt pb I2 T st2 f2 q) fun r s' hr => ?_
  cases r with
  | ok f => exact wpAny_pure hr
  | error e => exact hr.elim
end
/-- the block's context -/
def Bk (X : Cx) (scope : Scope) (X' : Cx) : Prop := ∃ (s : Shared) (H : Hp) (E : Addr) (cl : List (Str × Addr)) (fp : List Addr), X' = X.blk s H scope (compEnvC scope cl E X.env) fp
/-- a new container: its object, what is told of it -/
structure NewC (X : Cx) (m : Sem Value) (o : Obj) (ho : Addr → HO) : Prop where
  run : ∀ (s : Shared) (Q : Value → Shared → Prop), Q (.ref s.heap.objs.size) { s with heap := s.heap.push o } → wpAny (model X.prog X.w) X.A m Q nix s
  ok : ∀ (h : Heap) (H : Hp), sysModules < h.objs.size → ObjOk X.prog X.w (upd H h.objs.size (ho h.objs.size)) (h.push o) h.objs.size (ho h.objs.size)
section
variable {X : Cx} {C : Expr} {tg iter : Expr} {ifs : List Expr} {body : Value → PySem.Env → Sem Unit} {s : Shared} {scope : Scope}
def tCC (ho : Addr → HO) (wi : TI) (vs : List Nat) (g : Addr → TG) (tt : Addr → TT) (tb : Addr → TB) : TE := fun σ H Q => wi σ H fun J H1 => ∀ D, H1 D = none → tK vs (g D) (tt D) (tb D) J (fun _ H' => Q (.ref D) H') σ (upd H1 D (ho D))
theorem cc_core {pins : List (Addr × Obj)} {σ : L2.St} {H : Hp} {Q : VK} {own : List (Str × Nat)} {pos' : Pos} {m : Sem Value} {o : Obj} {ho : Addr → HO} {wi : TI} {g : Addr → TG} {tt : Addr → TT} {tb : Addr → TB} {gs : List Comprehension} {use : Option (Value → Sem Unit)} {Qf : Value → Shared → Prop}
    (hC : clausesOf C = ⟨tg, iter, ifs, 0⟩ :: gs) (nw : NewC X m o ho) (hc : X.calm = true) (hN : X.N.Nodup) (I : Inv X pins σ H s) (hi : PI X tg iter wi) (ok : BlkOk X.N X.env.scope scope own)
    (hcl : ∀ X' D, Bk X scope X' → Cl X' C 0 (.ref D) tg iter ifs (body (.ref D) X'.env)) (hg : ∀ X' D, Bk X scope X' → PG X' tg (g D)) (ht : ∀ X' D, Bk X scope X' → PTs X' ifs (tt D)) (hb : ∀ X' D, Bk X scope X' → PB X' (body (.ref D) X'.env) (tb D))
    (hs : ∀ x, foldedSetIterable iter X.env x = pure x) (h : tCC ho wi (own.map (·.2)) g tt tb σ H Q)
    (hR : ∀ D E s' n H', Inv X pins σ H' s' → Q (.ref D) H' → s'.heap.Ns E n → FpOk X pins H' E → compPost (model X.prog X.w) X.A X.xe use Qf (.ref D) E (.ok .next) s')  :
    wpAny (model X.prog X.w) X.A (comprehension C scope X.env pos' m false (eval iter X.env) use) Qf X.xe s := by
  have hfree : ∀ y ∈ scope.names, y.2 = .free → ∃ c, X.env.cells.lookup y.1 = some c := fun y hy e => by
    rcases ok.free y hy e with k | k
    · exact I.ok.has _ (.inl k)
    · exact I.ok.has _ (.inr k)
  refine wpAny_comprehension_free (use := use) hC hs (closure_ok hfree) ok.kind (fun y hy e => by rw [ok.uniq y hy, e]) (thn (hi.run pins s σ H _ I h) fun xv s1 hx => thn hx fun itv s2 h2 => ?_)
  obtain ⟨it, fp, tn, J, H2, e, I2, T, st2, f2, q⟩ := h2
  subst e
  refine thnF (nw.run s2 (fun acc s3 => acc = .ref s2.heap.objs.size ∧ s3 = { s2 with heap := s2.heap.push o }) ⟨rfl, rfl⟩) fun acc s3 ⟨ea, es⟩ => ?_
  subst ea es
  refine newEnv_comp ?_
  have hDn : H2 s2.heap.objs.size = none := I2.hok.fresh (Nat.le_refl _)
  have q := q _ hDn
  have I3 : Inv X pins σ (upd H2 s2.heap.objs.size (ho s2.heap.objs.size)) { s2 with heap := s2.heap.push o } := I2.laid (t' := s2.toks) (fun b u e => Heap.get?_push_of_some _ e) (Nat.le_refl _) (nw.ok _ _ I2.big)
  generalize hD : s2.heap.objs.size = D at hDn q I3 ⊢
  generalize hH3 : upd H2 D (ho D) = H3 at q I3
  have nD : ∀ b ∈ fp, H3 b = none ∧ b < D := fun b hb => by
    obtain ⟨ob, e, _⟩ := T.obj _ _ st2 b hb
    have lt : b < D := by rw [← hD]; exact Heap.lt_size e
    exact ⟨by rw [← hH3, upd_ne (Nat.ne_of_lt lt)]; exact (f2 b hb).1, lt⟩
  have sz3 : (s2.heap.push o).objs.size = D + 1 := by rw [Heap.size_push, hD]
  have f3 : ∀ b ∈ fp, FpOk X pins H3 b ∧ b < (s2.heap.push o).objs.size := fun b hb => ⟨⟨(nD b hb).1, (f2 b hb).2⟩, by rw [sz3]; exact Nat.lt_succ_of_lt (nD b hb).2⟩
  have st3 : tn 0 (s2.heap.push o) := T.keep _ _ _ st2 fun b _ ob e => Heap.get?_push_of_some _ e
  generalize hs3 : ({ s2 with heap := s2.heap.push o } : Shared) = s3 at I3 ⊢
  have h3 : s3.heap = s2.heap.push o := by rw [← hs3]
  rw [← h3] at f3 st3
  have I4 := block_start I3 ok hN f3
  show codeAny _ _ (.compStart C 0 (.ref it) (.ref D) (compEnvC scope (cellsFrom (s3.heap.objs.size + 1) scope.names (cloFrom X.env.cells scope.names [])) s3.heap.objs.size X.env)) (compPost (model X.prog X.w) X.A X.xe use Qf (.ref D) s3.heap.objs.size) { s3 with heap := pushCells (s3.heap.push { cls := .type "dict", data := .dict #[] }) scope.names }
  generalize hce : compEnvC scope (cellsFrom (s3.heap.objs.size + 1) scope.names (cloFrom X.env.cells scope.names [])) s3.heap.objs.size X.env = ce at I4 ⊢
  have bk : Bk X scope (X.blk s3 H3 scope ce fp) := ⟨s3, H3, _, _, fp, by rw [← hce]⟩
  have cL : ce.locals = s3.heap.objs.size := by subst hce; rfl
  have st4 : tn 0 (pushCells (s3.heap.push { cls := .type "dict", data := .dict #[] }) scope.names) := T.keep _ _ _ st3 fun b _ ob e => pushCells_keeps _ _ _ _ (Heap.get?_push_of_some _ e)
  have f4 : ∀ b ∈ fp, FpOk (X.blk s3 H3 scope ce fp) [] H3 b := fun b hb =>
    ⟨(nD b hb).1, (I4.ok.exf b hb).1, I4.ok.exfs b hb, .inl hb, fun x c e => (I4.ok.exf b hb).2 x c e, fun p hp => absurd (show p ∈ ([] : List (Addr × Obj)) ++ [] from hp) (by simp)⟩
  have hw : ∀ (D' : L2.St → Hp → Prop), tK (own.map (·.2)) (g D) (tt D) (tb D) J D' σ H3 → tK (own.map (·.2)) (g D) (tt D) (tb D) J D' (wipe σ (own.map (·.2))) H3 := fun D' z => by
    unfold tK at z ⊢
    rw [wipe_eq (σ := σ) (σ' := wipe σ (own.map (·.2))) (fun j hj => wipe_out hj) (wipe_length ..)]
    exact z
  have run := cl_run (hcl _ D bk) rfl hc (hg _ D bk) (ht _ D bk) (hb _ D bk) I4 T st4 f4 (hw _ q)
  refine codeAny_mono (show codeAny _ X.A (.compStart C 0 (.ref it) (.ref D) ce) _ _ from run) fun r s' hr => ?_
  cases r with
  | error e => exact hr.elim
  | ok f =>
    obtain ⟨σ', H5, I6, qq⟩ := hr
    have I7 : Inv X pins σ H5 s' := I3.call' (ch := fp) I6.os I6.base I6.hok I6.bare fun b hb => ⟨(f3 b hb).1.2.2.2.1, (f3 b hb).1.2.1, (f3 b hb).1.2.2.2.2.1, (f3 b hb).1.2.2.2.2.2⟩
    obtain ⟨n, hn, _⟩ := I6.loc
    have nE : H5 ce.locals = none := I6.free
    have hn : s'.heap.Ns ce.locals n := hn
    rw [cL] at hn nE
    have fin := hR D s3.heap.objs.size s' n H5 I7 qq hn (I3.fpOk (Nat.le_refl _) nE)
    cases use <;> exact fin
/-- as a value -/
theorem pe_cc {own : List (Str × Nat)} {m : Sem Value} {o : Obj} {ho : Addr → HO} {wi : TI} {g : Addr → TG} {tt : Addr → TT} {tb : Addr → TB} {gs : List Comprehension} {pos' : Pos}
    (hC : clausesOf C = ⟨tg, iter, ifs, 0⟩ :: gs) (he : ∀ env, eval C env = comprehension C scope env pos' m false (eval iter env) none) (nw : NewC X m o ho) (hc : X.calm = true) (hN : X.N.Nodup) (hi : PI X tg iter wi) (ok : BlkOk X.N X.env.scope scope own)
    (hcl : ∀ X' D, Bk X scope X' → Cl X' C 0 (.ref D) tg iter ifs (body (.ref D) X'.env)) (hg : ∀ X' D, Bk X scope X' → PG X' tg (g D)) (ht : ∀ X' D, Bk X scope X' → PTs X' ifs (tt D)) (hb : ∀ X' D, Bk X scope X' → PB X' (body (.ref D) X'.env) (tb D))
    (hs : ∀ x, foldedSetIterable iter X.env x = pure x) : PE X C (tCC ho wi (own.map (·.2)) g tt tb) := by
  refine ⟨fun pins s σ H Q I h => ?_⟩
  rw [he]
  refine cc_core hC nw hc hN I hi ok hcl hg ht hb hs h fun D E s' n H' I' q hn f => ⟨n, hn, fun h'' sb => ?_⟩
  obtain ⟨f0, f1, f2, f3, f4, f5⟩ := f
  exact ⟨.ref D, H', I'.turned (t' := s'.toks) (fun b u hb e => (sb.2 b hb).trans e) f0 f1 f3 f4 f5, rfl, q⟩
/-- name = C on one line, the name a local -/
theorem ps_cc {i : Nat} {y : Str} {py : Pos} {own : List (Str × Nat)} {spos : Pos} {m : Sem Value} {o : Obj} {ho : Addr → HO} {wi : TI} {g : Addr → TG} {tt : Addr → TT} {tb : Addr → TB} {gs : List Comprehension} {pos' : Pos}
    (hC : clausesOf C = ⟨tg, iter, ifs, 0⟩ :: gs) (he : ∀ (env : PySem.Env) u, evalThenUse C env u = (do let _ ← comprehension C scope env pos' m false (eval iter env) (some u)))
    (hsw : swapsWith C (some (.Name y py)) spos.line X.env = pure true) (hy : X.N[i]? = some y) (hyl : X.env.scope.names.lookup y = some .local)
    (nw : NewC X m o ho) (hc : X.calm = true) (hN : X.N.Nodup) (hi : PI X tg iter wi) (ok : BlkOk X.N X.env.scope scope own)
    (hcl : ∀ X' D, Bk X scope X' → Cl X' C 0 (.ref D) tg iter ifs (body (.ref D) X'.env)) (hg : ∀ X' D, Bk X scope X' → PG X' tg (g D)) (ht : ∀ X' D, Bk X scope X' → PTs X' ifs (tt D)) (hb : ∀ X' D, Bk X scope X' → PB X' (body (.ref D) X'.env) (tb D))
    (hs : ∀ x, foldedSetIterable iter X.env x = pure x) : PS X (.Assign [.Name y py] C spos) (tAsg (tCC ho wi (own.map (·.2)) g tt tb) (gName i)) := by
  refine ⟨fun pins s σ H D I h => ?_⟩
  rw [exec_Assign_Name_used _ _ _ _ hsw, he]
  have h : tCC ho wi (own.map (·.2)) g tt tb σ H (fun x H1 => gName i x σ H1 D.nx) := h
  refine wpAny_bind (wpAny_standAt (wpAny_bind (wpAny_bind ?_)))
  refine thn (cc_core (Qf := fun _ s' => SP X pins D .next s') hC nw hc hN I hi ok hcl hg ht hb hs h fun L E s' n H' I' q hn f => ?_) fun _ s' hq => wpAny_pure (wpAny_pure hq)
  show wpAny _ _ (assign (.Name y py) X.env (.ref L)) _ _ _
  refine wpAny_assign_Name (store_ok2 (v := V.ref L) I' hN hy (.inl hyl) rfl (fun s2 I2 ⟨a, sb, ha⟩ => ?_) (.inr hyl))
  obtain ⟨f0, f1, f2, f3, f4, f5⟩ := f
  have ne : E ≠ a := fun e => by
    rcases ha with z | z
    · exact f1 (e.trans z)
    · exact f4 y a z e.symm
  exact ⟨n, hn.sameBut sb ne, fun h3 sb3 => ⟨_, H', I2.turned (t' := s2.toks) (fun b u hb e => (sb3.2 b hb).trans e) f0 f1 f3 f4 f5, q⟩⟩
end
end Z
end

section
/-! Z9: typed comprehensions of any kind. -/
namespace Z
open PySem PySem.Spec L2 PyProof.Rows
/-- what a new container holds -/
structure Con where
  is : Addr → Hp → HO → Prop
  mono : ∀ {D : Addr} {S T : Hp} {o : HO}, Ex S T → is D S o → is D T o
  mu : ∀ {D : Addr} {S : Hp} {o : HO}, is D S o → Mut (some o)
  nx : ∀ {D : Addr} {S : Hp} {o : HO}, is D S o → ∀ q, o ≠ LamX.CodeO D q
def Cell.con (c : Cell) : Con := ⟨fun _ S o => c.is S o, fun e h => Cell.mono e h, fun h => Cell.mut h, fun h => Cell.nx h _⟩
/-- D is kept from the names -/
def Md.gd (M : Md) (D : Addr) : Md := { M with dom := fun a => M.dom a ∨ a = D }
def wch (M : Md) (D : Addr) : Addr → Prop := fun a => M.ch a ∨ a = D
def PostD (M : Md) (D : Addr) (S H S' H' : Hp) : Prop := Gr (wch M D) S H S' H' ∧ M.inv S' H'
theorem PostD.trans {M : Md} {D : Addr} {S H S1 H1 S2 H2 : Hp} (a : PostD M D S H S1 H1) (b : PostD M D S1 H1 S2 H2) : PostD M D S H S2 H2 := ⟨a.1.trans b.1, b.2⟩
theorem Post.wide {M : Md} {D : Addr} {S H S' H' : Hp} (a : Post M S H S' H') : PostD M D S H S' H' := ⟨⟨a.1.ss, a.1.sh, fun x o e n => a.1.hh x o e fun c => n (.inl c), a.1.old, a.1.al⟩, a.2⟩
/-- D stands, unfrozen, and holds c -/
def Hld (M : Md) (D : Addr) (c : Con) (S H : Hp) : Prop := ¬ M.ch D ∧ S D = none ∧ ∃ o, H D = some o ∧ c.is D S o
theorem Hld.post {M : Md} {D : Addr} {c : Con} {S H S' H' : Hp} (h : Hld M D c S H) (p : Post M S H S' H') : Hld M D c S' H' := by
  obtain ⟨h1, h2, o, h3, h4⟩ := h
  exact ⟨h1, by rw [p.1.old D o h3 (c.mu h4), h2], o, p.1.hh D o h3 h1, c.mono p.1.ss h4⟩
theorem Env.growD {M : Md} {D : Addr} {S H S' H' : Hp} {σ : L2.St} {G : List Slot} (g : Gr (wch M D) S H S' H') (e : Env (M.gd D) S H σ G) : Env (M.gd D) S' H' σ G :=
  ⟨e.len, fun i s h => by
    obtain ⟨x, h1, h2⟩ := e.at_ i s h
    refine ⟨x, h1, ?_⟩
    cases s with
    | unk => trivial
    | ty t => obtain ⟨v, k1, k2⟩ := h2; exact ⟨v, k1, t.mono g.ss k2⟩
    | own p c =>
      obtain ⟨k1, k2, k3, o, k4, k5⟩ := h2
      exact ⟨k1, k2, by rw [g.old p o k4 (Cell.mut k5), k3], o, g.hh p o k4 fun z => z.elim k2.1 fun e => k2.2 (.inr e), Cell.mono g.ss k5⟩, e.dis⟩
theorem Pre.nextD {M : Md} {D : Addr} {G : List Slot} {σ : L2.St} {S H S' H' : Hp} (p : Pre (M.gd D) G σ S H) (q : PostD M D S H S' H') : Pre (M.gd D) G σ S' H' := ⟨q.1.sh, q.2, p.2.2.growD q.1⟩
/-- the step of a clause, as typed -/
def tY (M : Md) (G : List Slot) (D : Addr) (vs : List Nat) (c c' : Con) : TB := fun Dn σ H => ∃ S, Pre (M.gd D) G σ S H ∧ Hld M D c S H ∧ ∀ σ' S' H', PostD M D S H S' H' → Hld M D c' S' H' → wipe σ' vs = wipe σ vs → Dn σ' H'
abbrev Bod := Value → PySem.Env → Sem Unit
def YB (g : Gc) (l : Lc) (M : Md) (G : List Slot) (vs : List Nat) (b : Bod) (c c' : Con) : Prop := ∀ X, At g l X → ∀ D, PB X (b (.ref D) X.env) (tY M G D vs c c')
theorem convP {X : Cx} {m : Sem Unit} {t u : TB} (p : PB X m t) (c : ∀ D σ H, u D σ H → t D σ H) : PB X m u := ⟨fun pins s σ H D I h => p.run pins s σ H D I (c D σ H h)⟩
section
variable {g : Gc} {l : Lc} {M : Md} {G : List Slot} {pos p : Pos} {tg iter elt kx vx e : Expr} {ifs : List Expr} {scope : Scope} {own : List (Str × Nat)} {ts : List Ty} {t : Ty} {vs : List Nat} {C : Expr} {lvl : Nat} {b : Bod}
def yG (M : Md) (G : List Slot) (ts : List Ty) (vs : List Nat) (G1 : Nat → List Slot) (D : Addr) : TG := fun v σ H Q => ∃ i t, ts[i]? = some t ∧ tG (M.gd D) (wipeG G vs) vs t (G1 i) v σ H Q
def yT (M : Md) (ts : List Ty) (G1 : Nat → List Slot) (f : Nat → Bool) (D : Addr) : TT := fun σ H Q => ∃ i t, ts[i]? = some t ∧ tT (M.gd D) (G1 i) (fun b => b = f i) σ H Q
def yY (M : Md) (ts : List Ty) (G1 : Nat → List Slot) (f : Nat → Bool) (vs : List Nat) (c : Nat → Con) (D : Addr) : TB := fun Dn σ H => ∃ i t, ts[i]? = some t ∧ f i = true ∧ tY M (G1 i) D vs (c i) (c (i + 1)) Dn σ H
/-- a clause's turns, one after another -/
theorem k_read {G1 : Nat → List Slot} {f : Nat → Bool} {c : Nat → Con} (hn : ∀ i, i < ts.length → f i = false → c (i + 1) = c i) {J : It} {D : Addr} {σ : L2.St} {S H : Hp} {Dn : L2.St → Hp → Prop} (pr : Pre (M.gd D) G σ S H) (hl : Hld M D (c 0) S H) (wk : Walk J S ts)
    (q : ∀ S' H', PostD M D S H S' H' → Hld M D (c ts.length) S' H' → Dn (wipe σ vs) H') : tK vs (yG M G ts vs G1 D) (yT M ts G1 f D) (yY M ts G1 f vs c D) J Dn σ H := by
  refine ⟨fun i m H' => m = ts.length - i ∧ i ≤ ts.length ∧ ∃ S', PostD M D S H S' H' ∧ Hld M D (c i) S' H', ⟨ts.length, rfl, Nat.zero_le _, S, ⟨Gr.refl pr.1, pr.2.1⟩, hl⟩, ?_⟩
  rintro i m H2 ⟨rfl, hil, S2, q2, hl2⟩
  have p2 := pr.nextD q2
  by_cases hlt : i < ts.length
  · refine .inr ?_
    have hit : ts[i]? = some ts[i] := List.getElem?_eq_getElem hlt
    obtain ⟨go, yl⟩ := wk.go S2 H2 i _ q2.1.ss q2.1.sh hit
    refine ⟨go, fun H' => i + 1 ≤ ts.length ∧ ∃ S', PostD M D S H S' H' ∧ Hld M D (c (i + 1)) S' H', fun H' ⟨k1, k2⟩ => ⟨ts.length - (i + 1), by omega, rfl, k1, k2⟩, fun x H3 hy => ?_⟩
    obtain ⟨S3, g3, hx⟩ := yl x H3 hy
    have q3 : Post (M.gd D) S2 H2 S3 H3 := Post.of p2.2.1 g3
    have p3 := p2.next q3
    have hl3 := hl2.post (M := M) q3
    refine ⟨i, _, hit, S3, ⟨p3.1, p3.2.1, p3.2.2.wiped _⟩, hx, fun σ4 p4 n4 l4 => ?_⟩
    have hw4 : wipe σ4 vs = wipe σ vs := by
      refine wipe_eq (fun j hj => ?_) (l4.trans (wipe_length ..))
      rw [n4 j hj, wipe_out hj]
    refine ⟨hw4, i, _, hit, S3, p4, fun b S5 H5 q5 hb => ?_⟩
    have p5 := p4.next q5
    have hl5 := hl3.post (M := M) q5
    have q25 : PostD M D S H S5 H5 := q2.trans ((Post.wide (M := M) q3).trans (Post.wide (M := M) q5))
    have hb : b = f i := hb
    subst hb
    cases hf : f i with
    | false => exact iteF ⟨by omega, S5, q25, by rw [hn i hlt hf]; exact hl5⟩
    | true => exact iteT ⟨i, _, hit, hf, S5, p5, hl5, fun σ' S' H' q6 hl6 hw => ⟨hw.trans hw4, by omega, S', q25.trans q6, hl6⟩⟩
  · have e : i = ts.length := by omega
    subst e
    exact .inl ⟨wk.stop S2 H2 q2.1.ss q2.1.sh, q S2 H2 q2 hl2⟩
/-- the parts of a clause, as typed -/
structure YC (g : Gc) (l : Lc) (M : Md) (G : List Slot) (vs : List Nat) (tg : Expr) (ifs : List Expr) (b : Bod) (ts : List Ty) (G1 : Nat → List Slot) (f : Nat → Bool) (c : Nat → Con) : Prop where
  xg : ∀ D i t, ts[i]? = some t → XG g l (M.gd D) (wipeG G vs) vs tg t (G1 i)
  xt : ∀ D i t, ts[i]? = some t → XTs g l (M.gd D) (G1 i) ifs (fun b => b = f i)
  bd : ∀ i t, ts[i]? = some t → f i = true → YB g l M (G1 i) vs b (c i) (c (i + 1))
  no : ∀ i, i < ts.length → f i = false → c (i + 1) = c i
theorem YC.pg {G1 : Nat → List Slot} {f : Nat → Bool} {c : Nat → Con} (y : YC g l M G vs tg ifs b ts G1 f c) {X : Cx} (A : At g l X) (D : Addr) : PG X tg (yG M G ts vs G1 D) := ⟨fun pins s σ H v w Q I r ⟨i, t, hit, h⟩ => (y.xg D i t hit X A).run pins s σ H v w Q I r h⟩
theorem YC.pt {G1 : Nat → List Slot} {f : Nat → Bool} {c : Nat → Con} (y : YC g l M G vs tg ifs b ts G1 f c) {X : Cx} (A : At g l X) (D : Addr) : PTs X ifs (yT M ts G1 f D) := ⟨fun pins s σ H Q I ⟨i, t, hit, h⟩ => (y.xt D i t hit X A).run pins s σ H Q I h⟩
theorem YC.pb {G1 : Nat → List Slot} {f : Nat → Bool} {c : Nat → Con} (y : YC g l M G vs tg ifs b ts G1 f c) {X : Cx} (A : At g l X) (D : Addr) : PB X (b (.ref D) X.env) (yY M ts G1 f vs c D) := ⟨fun pins s σ H Dn I ⟨i, t, hit, hf, h⟩ => (y.bd i t hit hf X A D).run pins s σ H Dn I h⟩
/-- the step of an outer clause -/
def inB (C : Expr) (lvl : Nat) (iter1 : Expr) : Bod := fun acc env => do
  let x ← eval iter1 env
  standAt iter1.pos
  let x ← foldedSetIterable iter1 env x
  let _ ← runOwn (.compStart C lvl (← holding [x] (pyIter x)) acc env) env
  pure ()
theorem yb_in {vs1 : List Nat} {G1 : Nat → List Slot} {f : Nat → Bool} {c : Nat → Con} (hi : ∀ D, XI g l (M.gd D) G tg iter ts) (y : YC g l M G vs1 tg ifs b ts G1 f c) (hsub : ∀ j ∈ vs1, j ∈ vs)
    (hcl : ∀ X, At g l X → ∀ D, Cl X C lvl (.ref D) tg iter ifs (b (.ref D) X.env)) (hs : ∀ env x, foldedSetIterable iter env x = pure x := by intro _ _; rfl) : YB g l M G vs (inB C lvl iter) (c 0) (c ts.length) := fun X A D =>
  convP (pb_in (hcl X A D) A.nox A.calm (hi D X A) (y.pg A D) (y.pt A D) (y.pb A D) hs) fun Dn σ H ⟨S, pr, hl, q⟩ => ⟨S, pr, fun J S1 H1 q1 wk =>
    k_read y.no (pr.next q1) (hl.post (M := M) q1) wk fun S' H' q2 hl2 => q _ S' H' ((Post.wide (M := M) q1).trans q2) hl2 (wipe_eq (fun j hj => wipe_out fun z => hj (hsub j z)) (wipe_length ..))⟩

/-! a comprehension of a kind -/
def tFC (M : Md) (G : List Slot) (c : Con) : TE := fun σ H Q => ∃ S, Pre M G σ S H ∧ ∀ p S' H', Post M S H S' H' → H p = none → Hld M p c S' H' → Q (.ref p) H'
def XC (g : Gc) (l : Lc) (M : Md) (G : List Slot) (e : Expr) (c : Con) : Prop := ∀ X, At g l X → PE X e (tFC M G c)
theorem gr_undo {mu : Addr → Prop} {M : Md} {D : Addr} {o : HO} {S H S' H' : Hp} (hD : H D = none) (g : Gr (wch M D) S (upd H D o) S' H') : Gr M.ch S H S' H' where
  ss := g.ss
  sh := g.sh
  hh := fun a u e n => g.hh a u (by rw [upd_ne (ne_of_none e hD)]; exact e) fun z => z.elim n (ne_of_none e hD)
  old := fun a u e m => g.old a u (by rw [upd_ne (ne_of_none e hD)]; exact e) m
  al := fun a u e => g.al a u (by rw [upd_ne (ne_of_none e hD)]; exact e)
/-- how a kind of comprehension begins -/
structure Beg (g : Gc) (m : Sem Value) (c : Con) : Prop where
  ex : ∃ (o : Obj) (ho : Addr → HO), (∀ X : Cx, X.prog = g.P → X.w = g.w → NewC X m o ho) ∧ ∀ D S, c.is D S (ho D)
theorem c_read {G1 : Nat → List Slot} {f : Nat → Bool} {c : Nat → Con} {ho : Addr → HO} (hn : ∀ i, i < ts.length → f i = false → c (i + 1) = c i) (h0 : ∀ D S, (c 0).is D S (ho D)) {σ : L2.St} {H : Hp} {Q : VK} (h : tFC M G (c ts.length) σ H Q) :
    tI M G ts σ H fun J H1 => ∀ D, H1 D = none → tK vs (yG M G ts vs G1 D) (yT M ts G1 f D) (yY M ts G1 f vs c D) J (fun _ H' => Q (.ref D) H') σ (upd H1 D (ho D)) := by
  obtain ⟨S, pr, q⟩ := h
  refine ⟨S, pr, fun J S1 H1 q1 wk D hD => ?_⟩
  have p1 := pr.next q1
  have gr := Gr.lay (o := ho D) p1.1 hD
  have ch : ¬ M.ch D := M.fresh p1.2.1 hD
  have en : Env (M.gd D) S1 (upd H1 D (ho D)) σ G := by
    have e := p1.2.2
    refine ⟨e.len, fun i s hi => ?_, e.dis⟩
    obtain ⟨x, k1, k2⟩ := e.at_ i s hi
    refine ⟨x, k1, ?_⟩
    cases s with
    | unk => trivial
    | ty t => exact k2
    | own p c =>
      obtain ⟨m1, m2, m3, o, m4, m5⟩ := k2
      have ne : p ≠ D := ne_of_none m4 hD
      exact ⟨m1, ⟨m2.1, fun z => z.elim m2.2 ne⟩, m3, o, by rw [upd_ne ne]; exact m4, m5⟩
  refine k_read hn ⟨gr.sh, M.stabG gr p1.2.1, en⟩ ⟨ch, p1.1.none hD, _, upd_same, h0 D S1⟩ ((show Walk J S1 ts from wk)) fun S' H' q2 hl2 => ?_
  exact q D S' H' ⟨q1.1.trans (gr_undo (mu := no) hD q2.1), q2.2⟩ (q1.1.fresh hD) hl2
/-- one that has no name of its own, of any number of clauses -/
theorem xc_any {m : Sem Value} {gs : List Comprehension} {pos' : Pos} {G1 : Nat → List Slot} {f : Nat → Bool} {c : Nat → Con} (hvs : vs = own.map (·.2)) (hC : clausesOf C = ⟨tg, iter, ifs, 0⟩ :: gs) (he : ∀ env, eval C env = comprehension C scope env pos' m false (eval iter env) none)
    (bg : Beg g m (c 0)) (hi : XI g l M G tg iter ts) (ok : BlkOk l.N l.sc scope own) (y : YC g (l.blk scope) M G vs tg ifs b ts G1 f c)
    (hcl : ∀ X, At g (l.blk scope) X → ∀ D, Cl X C 0 (.ref D) tg iter ifs (b (.ref D) X.env)) (hs : ∀ env x, foldedSetIterable iter env x = pure x := by intro _ _; rfl) : XC g l M G C (c ts.length) := fun X A => by
  subst hvs
  obtain ⟨o, ho, nw, h0⟩ := bg.ex
  have bk : ∀ X', Bk X scope X' → At g (l.blk scope) X' := fun X' ⟨s, H, E, cl, fp, e⟩ => by rw [e]; exact A.blk _ _ _ _ _ _ ok.kind
  have nd : X.N.Nodup := by rw [A.N]; exact A.nd
  exact conv (pe_cc (own := own) (body := b) (g := yG M G ts (own.map Prod.snd) G1) (tt := yT M ts G1 f) (tb := yY M ts G1 f (own.map Prod.snd) c) hC he (nw X A.prog A.w) A.calm nd (hi X A) (by rw [A.N, A.sc]; exact ok)
    (fun X' D k => hcl X' (bk X' k) D) (fun X' D k => y.pg (bk X' k) D) (fun X' D k => y.pt (bk X' k) D) (fun X' D k => y.pb (bk X' k) D) (hs _)) fun σ H Q h => c_read (vs := own.map Prod.snd) (G1 := G1) y.no h0 h
/-- name = C on one line, the name a local -/
def XSc (g : Gc) (l : Lc) (M : Md) (G : List Slot) (st : Stmt) (i : Nat) (c : Con) : Prop := ∀ X, At g l X → PS X st (tAsg (tFC M G c) (gName i))
theorem convAsg {X : Cx} {st : Stmt} {t u : TE} {q : TG} (p : PS X st (tAsg u q)) (c : ∀ σ H Q, t σ H Q → u σ H Q) : PS X st (tAsg t q) := ⟨fun pins s σ H D I h => p.run pins s σ H D I (c σ H _ h)⟩
theorem xsc_any {i : Nat} {x : Str} {py spos : Pos} {m : Sem Value} {gs : List Comprehension} {pos' : Pos} {G1 : Nat → List Slot} {f : Nat → Bool} {c : Nat → Con} (hvs : vs = own.map (·.2)) (hC : clausesOf C = ⟨tg, iter, ifs, 0⟩ :: gs)
    (he : ∀ (env : PySem.Env) u, evalThenUse C env u = (do let _ ← comprehension C scope env pos' m false (eval iter env) (some u)))
    (hsw : ∀ env : PySem.Env, env.scope.kind = .function → env.scope.names.lookup x = some .local → swapsWith C (some (.Name x py)) spos.line env = pure true)
    (bg : Beg g m (c 0)) (hi : XI g l M G tg iter ts) (ok : BlkOk l.N l.sc scope own) (y : YC g (l.blk scope) M G vs tg ifs b ts G1 f c)
    (hcl : ∀ X, At g (l.blk scope) X → ∀ D, Cl X C 0 (.ref D) tg iter ifs (b (.ref D) X.env)) (hN : l.N[i]? = some x := by rfl) (hx : l.sc.names.lookup x = some .local := by rfl) (hs : ∀ env x, foldedSetIterable iter env x = pure x := by intro _ _; rfl) :
    XSc g l M G (.Assign [.Name x py] C spos) i (c ts.length) := fun X A => by
  subst hvs
  obtain ⟨o, ho, nw, h0⟩ := bg.ex
  have bk : ∀ X', Bk X scope X' → At g (l.blk scope) X' := fun X' ⟨s, H, E, cl, fp, e⟩ => by rw [e]; exact A.blk _ _ _ _ _ _ ok.kind
  have nd : X.N.Nodup := by rw [A.N]; exact A.nd
  have hx' : X.env.scope.names.lookup x = some .local := by rw [A.sc]; exact hx
  exact convAsg (ps_cc (own := own) (body := b) (g := yG M G ts (own.map Prod.snd) G1) (tt := yT M ts G1 f) (tb := yY M ts G1 f (own.map Prod.snd) c) hC he (hsw _ A.kind hx') (by rw [A.N]; exact hN) hx' (nw X A.prog A.w) A.calm nd (hi X A) (by rw [A.N, A.sc]; exact ok)
    (fun X' D k => hcl X' (bk X' k) D) (fun X' D k => y.pg (bk X' k) D) (fun X' D k => y.pt (bk X' k) D) (fun X' D k => y.pb (bk X' k) D) (hs _)) fun σ H Q h => c_read (vs := own.map Prod.snd) (G1 := G1) y.no h0 h
end
end Z
end

section
/-! Z10: what a comprehension's step stores. -/
namespace Z
open PySem PySem.Spec L2 PyProof.Rows
section
variable {κ β : Type} [DecidableEq κ]
/-- in its place, or at the end -/
def putA (kvs : List (κ × β)) (k : κ) (v : β) : List (κ × β) := if (kvs.any fun q => decide (q.1 = k)) = true then kvs.map (fun q => if q.1 = k then (q.1, v) else q) else kvs ++ [(k, v)]
theorem putA_keys (kvs : List (κ × β)) (k : κ) (v : β) : (putA kvs k v).map (·.1) = if k ∈ kvs.map (·.1) then kvs.map (·.1) else kvs.map (·.1) ++ [k] := by
  unfold putA
  have e : ((kvs.any fun q => decide (q.1 = k)) = true) ↔ k ∈ kvs.map (·.1) := by
    simp only [List.any_eq_true, decide_eq_true_eq, List.mem_map]
  by_cases h : k ∈ kvs.map (·.1)
  · rw [if_pos (e.mpr h), if_pos h, List.map_map]
    apply List.map_congr_left
    intro q _
    show (if q.1 = k then (q.1, v) else q).1 = q.1
    split <;> rfl
  · rw [if_neg (fun z => h (e.mp z)), if_neg h, List.map_append]
    rfl
theorem putA_len (kvs : List (κ × β)) (k : κ) (v : β) : (putA kvs k v).length ≤ kvs.length + 1 := by
  unfold putA
  split
  · rw [List.length_map]; omega
  · rw [List.length_append]; exact Nat.le_refl _
theorem Kvs.any {S : Hp} {ts : List (κ × Ty)} {vs : List (κ × V)} (h : Kvs S ts vs) (k : κ) : (vs.any fun q => decide (q.1 = k)) = ts.any fun q => decide (q.1 = k) := by
  induction h with
  | nil => rfl
  | cons _ _ ih => simp only [List.any_cons, ih]
theorem Kvs.repl {S : Hp} {ts : List (κ × Ty)} {vs : List (κ × V)} (h : Kvs S ts vs) (k : κ) {t : Ty} {v : V} (ht : t.is S v) : Kvs S (ts.map fun q => if q.1 = k then (q.1, t) else q) (vs.map fun q => if q.1 = k then (q.1, v) else q) := by
  induction h with
  | nil => exact .nil
  | @cons j u w us ws hu _ ih =>
    simp only [List.map_cons]
    by_cases e : j = k
    · rw [if_pos e, if_pos e]; exact .cons ht ih
    · rw [if_neg e, if_neg e]; exact .cons hu ih
theorem Kvs.snoc {S : Hp} {ts : List (κ × Ty)} {vs : List (κ × V)} (h : Kvs S ts vs) (k : κ) {t : Ty} {v : V} (ht : t.is S v) : Kvs S (ts ++ [(k, t)]) (vs ++ [(k, v)]) := by
  induction h with
  | nil => exact .cons ht .nil
  | cons a _ ih => exact .cons a ih
theorem Kvs.put {S : Hp} {ts : List (κ × Ty)} {vs : List (κ × V)} (h : Kvs S ts vs) (k : κ) {t : Ty} {v : V} (ht : t.is S v) : Kvs S (putA ts k t) (putK vs k v) := by
  unfold putA putK
  rw [h.any k]
  split
  · exact h.repl k ht
  · exact h.snoc k ht
end
/-- the last one stored of each key, keys in the order they came -/
def buildA {α κ β : Type} [DecidableEq κ] (key : α → κ) (val : α → β) (xs : List α) : List (κ × β) := xs.foldl (fun acc x => putA acc (key x) (val x)) []
theorem take_succ_get {α : Type} {xs : List α} {i : Nat} {x : α} (h : xs[i]? = some x) : xs.take (i + 1) = xs.take i ++ [x] := by rw [List.take_add_one, h]; rfl
theorem buildA_snoc {α κ β : Type} [DecidableEq κ] {key : α → κ} {val : α → β} {xs : List α} {x : α} : buildA key val (xs ++ [x]) = putA (buildA key val xs) (key x) (val x) := by
  unfold buildA
  rw [List.foldl_append]
  rfl
theorem snocInd {α : Type} {P : List α → Prop} (h0 : P []) (hs : ∀ xs x, P xs → P (xs ++ [x])) (xs : List α) : P xs := by
  have key : ∀ ys : List α, P ys.reverse := fun ys => by
    induction ys with
    | nil => exact h0
    | cons y ys ih => rw [List.reverse_cons]; exact hs _ _ ih
  have := key xs.reverse
  rwa [List.reverse_reverse] at this
theorem buildA_len {α κ β : Type} [DecidableEq κ] {key : α → κ} {val : α → β} (xs : List α) : (buildA key val xs).length ≤ xs.length := by
  induction xs using snocInd with
  | h0 => exact Nat.le_refl _
  | hs xs x ih =>
    rw [buildA_snoc, List.length_append]
    have := putA_len (buildA key val xs) (key x) (val x)
    show _ ≤ xs.length + 1
    omega
theorem buildA_keys {α κ β : Type} [DecidableEq κ] {key : α → κ} {val : α → β} (xs : List α) : ((buildA key val xs).map (·.1)).Nodup ∧ ∀ k, k ∈ (buildA key val xs).map (·.1) ↔ k ∈ xs.map key := by
  induction xs using snocInd with
  | h0 => exact ⟨List.nodup_nil, fun k => Iff.rfl⟩
  | hs xs x ih =>
    rw [buildA_snoc, putA_keys]
    obtain ⟨i1, i2⟩ := ih
    by_cases h : key x ∈ (buildA key val xs).map (·.1)
    · rw [if_pos h]
      refine ⟨i1, fun k => ?_⟩
      rw [i2, List.map_append, List.mem_append]
      refine ⟨.inl, fun z => z.elim id fun z => ?_⟩
      have e : k = key x := by simpa using z
      subst e
      exact (i2 _).mp h
    · rw [if_neg h]
      refine ⟨?_, fun k => ?_⟩
      · rw [List.nodup_append]
        refine ⟨i1, by simp, fun a ha b hb e => h ?_⟩
        have hb : b = key x := by simpa using hb
        rw [← hb, ← e]; exact ha
      · rw [List.map_append, List.mem_append, List.mem_append, i2]
        simp

/-! ### steps -/
def bodL (elt : Expr) : Bod := fun acc env => do let _ ← call (.builtin "list.append") [acc, ← eval elt env]
def bodD (kx vx : Expr) : Bod := fun acc env => do
  let kv ← eval kx env
  let vv ← holding [kv] (eval vx env)
  match acc with
  | .ref d => do
    standAt { kx.pos with endLine := vx.pos.endLine, endCol := vx.pos.endCol }
    holding [kv, vv] (dictSet d kv vv)
  | _ => unsupported "internal:dictcomp"
def bodS (elt : Expr) : Bod := fun acc env => do
  let v ← eval elt env
  standAt elt.pos
  let _ ← call (.builtin "set.add") [acc, v]
def cnL (ts : List Ty) : Con := Cell.con (.lst ts)
def cnT (kvs : List (List Key × Ty)) : Con := Cell.con (.dT kvs)
def cnK (kvs : List (Key × Ty)) : Con := Cell.con (.dK kvs)
theorem set_ne {w : World} {D : Addr} {f : Int → Bool} {n : Nat} {q : Str} : SetO w D f n ≠ LamX.CodeO D q := fun z => by
  unfold SetO LamX.CodeO at z
  have z2 := congrFun (HO.ext.inj z) { objs := Array.replicate (D + 1) ⟨.none, none, .fields #[.none, .str q default], #[]⟩ }
  have g : Heap.get? { objs := Array.replicate (D + 1) ⟨.none, none, .fields #[.none, .str q default], #[]⟩ } D = some ⟨.none, none, .fields #[.none, .str q default], #[]⟩ := by
    unfold Heap.get?
    simp
  have c : ∃ (oc : Obj) (vs : Array Value) (t : Tok), Heap.get? { objs := Array.replicate (D + 1) ⟨.none, none, .fields #[.none, .str q default], #[]⟩ } D = some oc ∧ oc.data = .fields vs ∧ vs[1]? = some (.str q t) := ⟨_, _, default, g, rfl, rfl⟩
  rw [← z2] at c
  obtain ⟨o, es, ep, t, e1, _, e2, _⟩ := c
  rw [g] at e1
  cases e1
  cases e2
/-- a set of these ints -/
def cnS (w : World) (ns : List Int) : Con where
  is := fun D _ o => ∃ n, o = SetO w D (fun j => decide (j ∈ ns)) n ∧ n ≤ ns.length
  mono := fun _ h => h
  mu := fun ⟨n, h, _⟩ => by rw [h]; trivial
  nx := fun ⟨n, h, _⟩ q => by rw [h]; exact set_ne
section
variable {g : Gc} {l : Lc} {M : Md} {G : List Slot} {pos p : Pos} {tg iter elt kx vx e : Expr} {ifs : List Expr} {scope : Scope} {own : List (Str × Nat)} {ts : List Ty} {t u : Ty} {vs : List Nat}
/-- D is written -/
theorem wr_post {D : Addr} {S H : Hp} {c c' : Con} {o : HO} {G' : List Slot} {σ : L2.St} (pr : Pre (M.gd D) G' σ S H) (h : Hld M D c S H) (ho : c'.is D S o) : PostD M D S H S (upd H D o) ∧ Hld M D c' S (upd H D o) := by
  obtain ⟨h1, h2, o0, h3, h4⟩ := h
  refine ⟨⟨⟨Ex.rfl', fun a v e => ?_, fun a v e n => ?_, fun _ _ _ _ => rfl, fun a v e => ?_⟩, M.stab (fun a v ca e => ⟨?_, fun _ => rfl⟩) (fun a f e => by rw [upd_ne (show a ≠ D from fun z => c.nx h4 f (Option.some.inj (h3.symm.trans (by rw [← z]; exact e))))]; exact e) pr.2.1⟩, h1, h2, o, upd_same, ho⟩
  · rw [upd_ne (ne_of_none e h2)]
    exact pr.1 a v e
  · rw [upd_ne (fun z => n (.inr z))]
    exact e
  · by_cases z : a = D
    · subst z
      exact ⟨o, upd_same, fun _ => c'.mu ho⟩
    · exact ⟨v, by rw [upd_ne z]; exact e, id⟩
  · rw [upd_ne (fun z => h1 (by rw [← z]; exact ca))]
    exact e
theorem yb_L (he : ∀ D, XE g l (M.gd D) G elt u) (hl : ts.length < 100000) : YB g l M G vs (bodL elt) (cnL ts) (cnL (ts ++ [u])) := fun X A D => by
  refine ⟨fun pins s σ H Dn I ⟨S, pr, hd, q⟩ => ?_⟩
  have run := (he D X A).run
  rw [A.nox] at run
  refine wpAny_bind (thnF (run pins s σ H (fun v H1 => ∃ S1, Post (M.gd D) S H S1 H1 ∧ u.is S1 v) I ⟨S, pr, fun v S1 H1 q1 hv => ⟨S1, q1, hv⟩⟩) fun z s1 ⟨v, H1, I1, r1, S1, q1, hv⟩ => ?_)
  have pr1 := pr.next q1
  have hd1 := hd.post (M := M) q1
  obtain ⟨h1, h2, o, h3, ws, rfl, h4⟩ := id hd1
  have hlen : ws.length < sizeLine := by
    have k3 : (100000 : Nat) < sizeLine := by decide
    have := h4.len
    omega
  refine wpAny_bind (wpAny_mono (app_ok (E := nix) I1 h3 hlen r1 (Q := fun _ s' => ∃ σ' H', Inv X pins σ' H' s' ∧ Dn σ' H') fun s2 I2 => ?_) (fun _ _ h => wpAny_pure h) fun _ _ h => h)
  obtain ⟨w1, w2⟩ := wr_post (c' := cnL (ts ++ [u])) pr1 hd1 ⟨_, rfl, h4.snoc hv⟩
  exact ⟨σ, _, I2, q σ S1 _ ((Post.wide (M := M) q1).trans w1) w2 rfl⟩
theorem yb_K {kvs : List (Key × Ty)} {k : Key} (hk : ∀ D, XE g l (M.gd D) G kx (tKy k)) (he : ∀ D, XE g l (M.gd D) G vx u) (hl : kvs.length < 100000) : YB g l M G vs (bodD kx vx) (cnK kvs) (cnK (putA kvs k u)) := fun X A D => by
  refine ⟨fun pins s σ H Dn I ⟨S, pr, hd, q⟩ => ?_⟩
  have run := (he D X A).run
  have runk := (hk D X A).run
  rw [A.nox] at run runk
  refine wpAny_bind (thnF (runk pins s σ H (fun v H1 => ∃ S1, Post (M.gd D) S H S1 H1 ∧ v = kV k) I ⟨S, pr, fun v S1 H1 q1 hv => ⟨S1, q1, tKy_is.mp hv⟩⟩) fun zk s1 ⟨vk, H1, I1, rk, S1, q1, ek⟩ => ?_)
  subst ek
  have pr1 := pr.next q1
  have hd1 := hd.post (M := M) q1
  refine wpAny_bind (wpAny_holding (thnF (run pins s1 σ H1 (fun v H2 => ∃ S2, Post (M.gd D) S1 H1 S2 H2 ∧ u.is S2 v) I1 ⟨S1, pr1, fun v S1 H1 q1 hv => ⟨S1, q1, hv⟩⟩) fun z s2 ⟨v, H2, I2, r2, S2, q2, hv⟩ => ?_))
  have pr2 := pr1.next q2
  have hd2 := hd1.post (M := M) q2
  obtain ⟨h1, h2, o, h3, ws, rfl, h4⟩ := id hd2
  have hlen : ws.length < sizeLine := by
    have k3 : (100000 : Nat) < sizeLine := by decide
    have := h4.len
    omega
  obtain ⟨w1, w2⟩ := wr_post (c' := cnK (putA kvs k u)) pr2 hd2 ⟨_, rfl, h4.put k hv⟩
  exact wpAny_bind (wpAny_standAt (wpAny_holding (d_dictSet I2 h3 hlen rk r2 fun s3 I3 => ⟨σ, _, I3, q σ S2 _ (((Post.wide (M := M) q1).trans (Post.wide (M := M) q2)).trans w1) w2 rfl⟩)))
/-- d[k] = v by a comprehension, the key a tuple -/
theorem d_dictSetT {X : Cx} {pins : List (Addr × Obj)} {σ : L2.St} {H : Hp} {s : Shared} {E : Value → Shared → Prop} {D b : Addr} {kvs : List (List Key × V)} {k : List Key} {v : V} {r : Value} {Q : Unit → Shared → Prop} (hu : X.A.units + 1 < cLine) (I : Inv X pins σ H s) (hD : H D = some (.dT kvs)) (eb : H b = some (.tup (k.map kV)))
    (hz : kvs.length < sizeLine) (rv : RelV v r) (h : ∀ s', Inv X pins σ (upd H D (.dT (putK kvs k v))) s' → Q () s') : wpAny (model X.prog X.w) X.A (dictSet D (.ref b) r) Q E s := by
  obtain ⟨z, hd, xs, rel, dd⟩ := dt_of I.hok hD
  have lx : xs.length ≤ sizeLine := by
    rw [← Paired.length rel]
    exact z
  have ln := length_putK kvs k v
  refine wpAny_dictSet_heap (hsz := lx) (knd := tupleKind (mixKind X.prog X.w)) (show (tupleKind (mixKind X.prog X.w)).room X.A from by show X.A.units < cLine; omega) (key_of I.hok eb) dd fun h' dd' sb => h _ ?_
  obtain ⟨q, es, ep, hq, h2, h3, h4, _, h5⟩ := dd'
  have keep : KT (upd H D (.dT (putK kvs k v))) (putK kvs k v) (storedH xs k b r) := (rel.put k eb rv).keeps fun c ys ec => by
    rw [upd_ne (ne_of ec hD fun z => nomatch z)]
    exact ec
  exact d_write I (by rw [hD]; trivial) sb ⟨q, hq⟩ ⟨by omega, hd, _, keep, q, es, ep, hq, h2, h3, h4, h5⟩
theorem yb_T {kvs : List (List Key × Ty)} {k : List Key} (hk : ∀ D, XE g l (M.gd D) G kx (tKs k)) (he : ∀ D, XE g l (M.gd D) G vx u) (hl : kvs.length < 100000) : YB g l M G vs (bodD kx vx) (cnT kvs) (cnT (putA kvs k u)) := fun X A D => by
  refine ⟨fun pins s σ H Dn I ⟨S, pr, hd, q⟩ => ?_⟩
  have run := (he D X A).run
  have runk := (hk D X A).run
  rw [A.nox] at run runk
  refine wpAny_bind (thnF (runk pins s σ H (fun v H1 => ∃ S1, Post (M.gd D) S H S1 H1 ∧ (tKs k).is S1 v) I ⟨S, pr, fun v S1 H1 q1 hv => ⟨S1, q1, hv⟩⟩) fun zk s1 ⟨vk, H1, I1, rk, S1, q1, ek⟩ => ?_)
  have pr1 := pr.next q1
  have hd1 := hd.post (M := M) q1
  refine wpAny_bind (wpAny_holding (thnF (run pins s1 σ H1 (fun v H2 => ∃ S2, Post (M.gd D) S1 H1 S2 H2 ∧ u.is S2 v) I1 ⟨S1, pr1, fun v S1 H1 q1 hv => ⟨S1, q1, hv⟩⟩) fun z s2 ⟨v, H2, I2, r2, S2, q2, hv⟩ => ?_))
  have pr2 := pr1.next q2
  have hd2 := hd1.post (M := M) q2
  obtain ⟨b, e1, e2⟩ := tKs_is ek
  subst e1
  cases (show zk = Value.ref b from rk)
  obtain ⟨h1, h2, o, h3, ws, rfl, h4⟩ := id hd2
  have hlen : ws.length < sizeLine := by
    have k3 : (100000 : Nat) < sizeLine := by decide
    have := h4.len
    omega
  obtain ⟨w1, w2⟩ := wr_post (c' := cnT (putA kvs k u)) pr2 hd2 ⟨_, rfl, h4.put k hv⟩
  exact wpAny_bind (wpAny_standAt (wpAny_holding (d_dictSetT (by have := A.room.un; omega) I2 h3 (pr2.1 _ _ (q2.1.ss _ _ e2)) hlen r2 fun s3 I3 => ⟨σ, _, I3, q σ S2 _ (((Post.wide (M := M) q1).trans (Post.wide (M := M) q2)).trans w1) w2 rfl⟩)))
theorem yb_S {ns : List Int} {k : Int} (he : ∀ D, XE g l (M.gd D) G elt (tIn k)) (hl : ns.length < 1000) : YB g l M G vs (bodS elt) (cnS g.w ns) (cnS g.w (ns ++ [k])) := fun X A D => by
  refine ⟨fun pins s σ H Dn I ⟨S, pr, hd, q⟩ => ?_⟩
  have run := (he D X A).run
  rw [A.nox] at run
  refine wpAny_bind (thnF (run pins s σ H (fun v H1 => ∃ S1, Post (M.gd D) S H S1 H1 ∧ v = .int k) I ⟨S, pr, fun v S1 H1 q1 hv => ⟨S1, q1, hv⟩⟩) fun z s1 ⟨v, H1, I1, r1, S1, q1, hv⟩ => ?_)
  subst hv
  have pr1 := pr.next q1
  have hd1 := hd.post (M := M) q1
  obtain ⟨h1, h2, o, h3, n, e4, h5⟩ := id hd1
  subst e4
  rw [← A.w] at h3
  have hroom : n + 1 < scanBound := by
    have : (1001 : Nat) < scanBound := by decide
    omega
  have mt := mt_sadd (X := X) pins s1 σ H1 (V.ref D) [V.int k] (Value.ref D) [z] (fun _ H' => H' = upd H1 D (SetO X.w D (fun j => decide (j ∈ ns) || decide (j = k)) (if decide (k ∈ ns) = true then n else n + 1))) I1 rfl (.cons r1 .nil) ⟨D, k, _, n, rfl, rfl, h3, hroom, rfl⟩
  rw [A.nox] at mt
  refine wpAny_bind (wpAny_standAt (wpAny_bind (thnF mt fun _ s2 ⟨x, H2, I2, r2, e2⟩ => wpAny_pure ?_)))
  subst e2
  obtain ⟨w1, w2⟩ := wr_post (c' := cnS g.w (ns ++ [k])) (o := SetO X.w D (fun j => decide (j ∈ ns) || decide (j = k)) (if decide (k ∈ ns) = true then n else n + 1)) pr1 hd1 ⟨_, by
    rw [A.w]
    congr 1
    funext j
    by_cases e1 : j ∈ ns <;> by_cases e2 : j = k <;> simp [e1, e2], by
    rw [List.length_append]
    show _ ≤ ns.length + 1
    split <;> omega⟩
  exact ⟨σ, _, I2, q σ S1 _ ((Post.wide (M := M) q1).trans w1) w2 rfl⟩

/-! ### begins -/
theorem beg_L : Beg g (newList []) (cnL []) := ⟨_, fun _ => .lst [], fun X e1 e2 => ⟨fun s Q h => wpAny_newObj_type h (by show 0 ≤ sizeLine; decide), fun h H hb => ⟨Nat.zero_le _, [], 0, .nil, Heap.get?_push_size _ rfl⟩⟩, fun D S => ⟨[], rfl, .nil⟩⟩
theorem beg_K : Beg g newDict (cnK []) := ⟨_, fun _ => .dK [], fun X e1 e2 => ⟨fun s Q h => wpAny_newObj_type h, fun h H hb => dk_empty h hb⟩, fun D S => ⟨[], rfl, .nil⟩⟩
theorem beg_T : Beg g newDict (cnT []) := ⟨_, fun _ => .dT [], fun X e1 e2 => ⟨fun s Q h => wpAny_newObj_type h, fun h H hb => dt_empty h hb⟩, fun D S => ⟨[], rfl, .nil⟩⟩
theorem beg_S : Beg g (newSet (.type "set")) (cnS g.w []) := ⟨_, fun D => SetO g.w D (fun j => decide (j ∈ ([] : List Int))) 0, fun X e1 e2 => ⟨fun s Q h => by rw [e2]; exact PpSet.newSet_ok h, fun h H hb => by
  rw [e2, show (fun j => decide (j ∈ ([] : List Int))) = (fun _ : Int => false) from by funext j; simp]
  exact setO_new (setR_fresh g.w)⟩, fun D S => ⟨0, rfl, Nat.le_refl _⟩⟩
end
end Z
end

section
/-! Y1: hashes of (a text, a small number) lie apart. -/
namespace Z
open PySem
def rot (x : Nat) : Nat := (x * 2147483648) % 18446744073709551616 + x / 8589934592
def hG (v : Nat) : Int := if v = 18446744073709551615 then 1546275796 else if v < 9223372036854775808 then (v : Int) else (v : Int) - 18446744073709551616
def hX (A k : Nat) : Nat := (A + k * 14029467366897019727) % 18446744073709551616
def hF (A k : Nat) : Nat := (rot (hX A k) * 11400714785074694791 % 18446744073709551616 + 2870177450013471924) % 18446744073709551616
def hS (acc h : Nat) : Nat := rot ((acc + h * 14029467366897019727) % 18446744073709551616) * 11400714785074694791 % 18446744073709551616
theorem e64 : (2 ^ 64 : Nat) = 18446744073709551616 := by decide
theorem e63 : (2 ^ 63 : Nat) = 9223372036854775808 := by decide
theorem e31 : (2 ^ 31 : Nat) = 2147483648 := by decide
theorem e33 : (2 ^ 33 : Nat) = 8589934592 := by decide
def sS (acc : Nat) (h : Int) : Nat := (((acc + (h % ((2 ^ 64 : Nat) : Int)).toNat * 14029467366897019727) % 2 ^ 64) * 2 ^ 31 % 2 ^ 64 + ((acc + (h % ((2 ^ 64 : Nat) : Int)).toNat * 14029467366897019727) % 2 ^ 64) / 2 ^ 33) * 11400714785074694791 % 2 ^ 64
def sG (v : Nat) : Int := if (v == 2 ^ 64 - 1) = true then 1546275796 else if v < 2 ^ 63 then (v : Int) else (v : Int) - ((2 ^ 64 : Nat) : Int)
theorem sS_eq (acc : Nat) (h : Int) : sS acc h = hS acc (h % ((18446744073709551616 : Nat) : Int)).toNat := by
  unfold sS hS rot
  rw [e64, e31, e33]
theorem sG_eq (v : Nat) : sG v = hG v := by
  unfold sG hG
  rw [e64, e63]
  by_cases h : v = 18446744073709551615
  · rw [if_pos h, if_pos (by rw [h]; decide)]
  · rw [if_neg h, if_neg (fun z => h (by simpa using z))]
    rfl
theorem th_s (c d : Int) : Builtin.Tuple.tupleHashOf [c, d] = sG ((sS (sS 2870177450012600261 c) d + (2 ^^^ (2870177450012600261 ^^^ 3527539))) % 2 ^ 64) := by
  have l2 : [c, d].length = 2 := rfl
  unfold Builtin.Tuple.tupleHashOf
  dsimp only
  rw [l2, List.foldl_cons, List.foldl_cons, List.foldl_nil]
  generalize ez : (2 ^ 64 : Nat) = m
  generalize ey : (2 ^ 63 : Nat) = n
  generalize ex : (2 ^ 33 : Nat) = o
  generalize ew : (2 ^ 31 : Nat) = p
  unfold sG sS
  rw [ez, ey, ex, ew]
theorem th_eq (c : Int) (k : Nat) (hk : k < 64) : Builtin.Tuple.tupleHashOf [c, (k : Int)] = hG (hF (hS 2870177450012600261 (c % ((18446744073709551616 : Nat) : Int)).toNat) k) := by
  have e : ((k : Int) % ((18446744073709551616 : Nat) : Int)).toNat = k := by omega
  rw [th_s, sG_eq, sS_eq, sS_eq, e, e64]
  generalize hS 2870177450012600261 (c % ((18446744073709551616 : Nat) : Int)).toNat = A
  have cc : (2 ^^^ (2870177450012600261 ^^^ 3527539) : Nat) = 2870177450013471924 := by decide
  rw [cc]
  unfold hF hX hS
  with_reducible rfl
theorem rot_mul {x : Nat} : (x * 2147483648) % 18446744073709551616 = x % 8589934592 * 2147483648 := Nat.mul_mod_mul_right 2147483648 x 8589934592
theorem rot_inj {x y : Nat} (hx : x < 18446744073709551616) (hy : y < 18446744073709551616) (h : rot x = rot y) : x = y := by
  unfold rot at h
  rw [rot_mul, rot_mul] at h
  have d1 := Nat.div_add_mod x 8589934592
  have d2 := Nat.div_add_mod y 8589934592
  have b1 : x / 8589934592 < 2147483648 := by omega
  have b2 : y / 8589934592 < 2147483648 := by omega
  generalize x / 8589934592 = a at *
  generalize x % 8589934592 = b at *
  generalize y / 8589934592 = c at *
  generalize y % 8589934592 = d at *
  omega
theorem rot_lt {x : Nat} (hx : x < 18446744073709551616) : rot x < 18446744073709551616 := by
  unfold rot
  rw [rot_mul]
  have b1 : x / 8589934592 < 2147483648 := by omega
  have b2 : x % 8589934592 < 8589934592 := Nat.mod_lt _ (by decide)
  generalize x / 8589934592 = a at *
  generalize x % 8589934592 = b at *
  omega
theorem inv_mul {x p q m : Nat} (hx : x < m) (h : p * q % m = 1 % m) : (x * p % m) * q % m = x := by
  rw [Nat.mod_mul_mod, Nat.mul_assoc, Nat.mul_mod, h, Nat.mod_eq_of_lt hx, Nat.mul_mod_mod, Nat.mul_one, Nat.mod_eq_of_lt hx]
theorem p1_get {x z : Nat} (hx : x < 18446744073709551616) (h : x * 11400714785074694791 % 18446744073709551616 = z) : x = z * 614540362697595703 % 18446744073709551616 := by
  rw [← h]
  exact (inv_mul hx (by decide)).symm
theorem add_can {A a b m : Nat} (hm : 0 < m) (h : (A + a) % m = (A + b) % m) : a % m = b % m := by
  have key : ∀ z, (m - A % m + (A + z)) % m = z % m := fun z => by
    have e : m - A % m + (A + z) = m * (A / m + 1) + z := by
      have h1 := Nat.div_add_mod A m
      have h2 := Nat.mod_lt A hm
      rw [Nat.mul_add, Nat.mul_one]
      generalize m * (A / m) = q at *
      omega
    rw [e, Nat.mul_add_mod]
  rw [← key a, ← key b, Nat.add_mod, h, ← Nat.add_mod]
theorem k_inj {A k j : Nat} (hk : k < 64) (hj : j < 64) (h : hX A k = hX A j) : k = j := by
  have key : k * 14029467366897019727 % 18446744073709551616 = j * 14029467366897019727 % 18446744073709551616 := add_can (by decide) h
  have lk : k < 18446744073709551616 := Nat.lt_trans hk (by decide)
  have lj : j < 18446744073709551616 := Nat.lt_trans hj (by decide)
  have h1 := inv_mul (p := 14029467366897019727) (q := 839798700976720815) lk (by decide)
  have h2 := inv_mul (p := 14029467366897019727) (q := 839798700976720815) lj (by decide)
  rw [← h1, ← h2, key]
theorem hX_lt {A k : Nat} : hX A k < 18446744073709551616 := Nat.mod_lt _ (by decide)
theorem hF_get {A k u : Nat} (h : hF A k = (u + 2870177450013471924) % 18446744073709551616) (hu : u < 18446744073709551616) : rot (hX A k) = u * 614540362697595703 % 18446744073709551616 := by
  refine p1_get (rot_lt hX_lt) ?_
  unfold hF at h
  have lt : rot (hX A k) * 11400714785074694791 % 18446744073709551616 < 18446744073709551616 := Nat.mod_lt _ (by decide)
  generalize rot (hX A k) * 11400714785074694791 % 18446744073709551616 = z at *
  omega
theorem x0_of {A k : Nat} (h : hF A k = 18446744073709551615) : hX A k = 9148689060682678900 := by
  have e := hF_get (u := 15576566623696079691) (by rw [h]) (by decide)
  exact rot_inj hX_lt (by decide) (e.trans (by decide))
theorem x1_of {A k : Nat} (h : hF A k = 1546275796) : hX A k = 15881292906973731817 := by
  have e := hF_get (u := 15576566625242355488) (by rw [h]) (by decide)
  exact rot_inj hX_lt (by decide) (e.trans (by decide))
theorem x_apart {A k j : Nat} (hk : k < 64) (hj : j < 64) (h0 : hX A k = 9148689060682678900) (h1 : hX A j = 15881292906973731817) : False := by
  have key : ∀ k, k < 64 → ∀ j, j < 64 → (9148689060682678900 + j * 14029467366897019727) % 18446744073709551616 ≠ (15881292906973731817 + k * 14029467366897019727) % 18446744073709551616 := by decide +kernel
  refine key k hk j hj ?_
  unfold hX at h0 h1
  rw [← h0, ← h1, Nat.mod_add_mod, Nat.mod_add_mod, Nat.add_right_comm]
theorem hG_inj {A k j : Nat} (hk : k < 64) (hj : j < 64) (h : hG (hF A k) = hG (hF A j)) : k = j := by
  have l1 : hF A k < 18446744073709551616 := Nat.mod_lt _ (by decide)
  have l2 : hF A j < 18446744073709551616 := Nat.mod_lt _ (by decide)
  have same : hF A k = hF A j → k = j := fun e => by
    have lt : rot (hX A j) * 11400714785074694791 % 18446744073709551616 < 18446744073709551616 := Nat.mod_lt _ (by decide)
    have e1 := hF_get (A := A) (k := k) (u := rot (hX A j) * 11400714785074694791 % 18446744073709551616) e lt
    rw [inv_mul (rot_lt hX_lt) (by decide)] at e1
    exact k_inj hk hj (rot_inj hX_lt hX_lt e1)
  unfold hG at h
  by_cases h1 : hF A k = 18446744073709551615
  · by_cases h2 : hF A j = 18446744073709551615
    · exact same (h1.trans h2.symm)
    · rw [if_pos h1, if_neg h2] at h
      have e : hF A j = 1546275796 := by
        split at h <;> omega
      exact (x_apart hk hj (x0_of h1) (x1_of e)).elim
  · by_cases h2 : hF A j = 18446744073709551615
    · rw [if_neg h1, if_pos h2] at h
      have e : hF A k = 1546275796 := by
        split at h <;> omega
      exact (x_apart hj hk (x0_of h2) (x1_of e)).elim
    · rw [if_neg h1, if_neg h2] at h
      refine same ?_
      split at h <;> split at h <;> omega
theorem hG_not {v : Nat} (h : v < 18446744073709551616) : hG v ≠ -1 ∧ -(2 ^ 63 : Int) ≤ hG v ∧ hG v < 2 ^ 63 := by
  unfold hG
  split
  · decide
  · split <;> omega
theorem th_inj {c : Int} {k j : Nat} (hk : k < 64) (hj : j < 64) (h : reduceHash (Builtin.Tuple.tupleHashOf [c, (k : Int)]) = reduceHash (Builtin.Tuple.tupleHashOf [c, (j : Int)])) : k = j := by
  rw [th_eq c k hk, th_eq c j hj] at h
  have red : ∀ v, v < 18446744073709551616 → reduceHash (hG v) = hG v := fun v hv => by
    obtain ⟨n1, n2, n3⟩ := hG_not hv
    unfold reduceHash
    rw [if_pos (by rw [Bool.and_eq_true]; exact ⟨decide_eq_true n2, decide_eq_true n3⟩), if_neg (fun z => n1 (by simpa using z))]
  rw [red _ (show hF _ k < 18446744073709551616 from Nat.mod_lt _ (by decide)), red _ (show hF _ j < 18446744073709551616 from Nat.mod_lt _ (by decide))] at h
  exact hG_inj hk hj h
end Z
end

section
/-! Z11: dicts: read, copied, set by default, written, listed. -/
namespace Z
open PySem PySem.Spec L2 PyProof.Rows
/-! ### dict(d), the keys tuples whose hashes lie apart -/
section
variable {prog : Program} {w : World} {K : Type} [DecidableEq K] {knd : HeapKind prog w K} {A : Around} {E : Value → Shared → Prop} {s : Shared}
theorem dict_ofH {o : Addr} {more : List (K × Addr × Value)} {Q : Value → Shared → Prop} (hu : knd.room A.in1.in1) (hoS : (o == sysModules) = false) (ho : s.heap.DictOfH knd o more) (hk : ∀ h' : Heap, (∀ b u, s.heap.get? b = some u → h'.get? b = some u) → h'.DictOfH knd o more)
    (hty : ∀ x ∈ more, s.TypeIs (.ref x.2.1) "tuple") (hap : (more.map fun x => knd.hash x.1).Nodup) (hsz : more.length ≤ sizeLine)
    (h : ∀ h', h'.DictOfH knd s.heap.objs.size more → Heap.SameBut s.heap.objs.size (s.heap.push { cls := .type "dict", data := .dict #[] }) h' → Q (.ref s.heap.objs.size) { s with heap := h' }) :
    wpAny (model prog w) A (call (.type "dict") [.ref o]) Q E s := by
  refine callType_codes (Q₁ := fun ob s1 => ob = .ref s.heap.objs.size ∧ s1 = { s with heap := s.heap.push { cls := .type "dict", data := .dict #[] } }) PySem.F.kt_called_dict (PySem.F.kt_typeCall_dict_1 _) PySem.F.entry_dict_init (kt_code_dict_new _ ⟨rfl, rfl⟩) ?_
  intro ob s1 ⟨e1, e2⟩
  subst e1 e2
  have nw : (s.heap.push { cls := .type "dict", data := .dict #[] }).DictOfH knd s.heap.objs.size [] := Heap.DictOfH.new s.heap
  have ol := hk (s.heap.push { cls := .type "dict", data := .dict #[] }) fun b u e => Heap.get?_push_of_some _ e
  have ne : s.heap.objs.size ≠ o := fun e => by
    obtain ⟨_, _, _, hg, _⟩ := ho
    exact absurd (Heap.lt_size hg) (by rw [e]; exact Nat.lt_irrefl _)
  have nd : (more.map (·.1)).Nodup := Heap.DictOfH.nodup ho
  refine ⟨nw.typeIs, PySem.F.args_dict_init_2 _ _, ?_⟩
  unfold Builtin.«dict.__init__»
  refine wpAny_bind ?_
  unfold Builtin.Dict.selfAndRest
  refine wpAny_bind (wpAny_notOrdered_dict nw.typeIs ?_)
  show wpAny _ _ (pure (s.heap.objs.size, [Value.ref o])) _ _ _
  refine wpAny_pure ?_
  show wpAny _ _ (Builtin.Dict.updateFrom "dict.__init__" s.heap.objs.size (.ref o) [] .none) _ _ _
  refine updateFrom_dictH (R := wants (fun r s2 => r = .none ∧ Q (.ref s.heap.objs.size) s2) E) .none hu ne hoS nw ol (.inr ⟨fun x hx => ?_, hap⟩) (by show 0 + more.length ≤ sizeLine; omega) fun h' d1 d2 sb => ?_
  · obtain ⟨u, hu, hc⟩ := hty x hx
    exact ⟨u, Heap.get?_push_of_some _ hu, hc⟩
  · rw [storedAllH_nil_of_nodup more nd] at d1
    exact ⟨rfl, h h' d1 sb⟩
end
/-- hashes of keys that lie apart -/
def Apart (w : World) (ks : List (List Key)) : Prop := (ks.map fun k => reduceHash (Builtin.Tuple.tupleHashOf (k.map (keyH w)))).Nodup
theorem call_dictT {X : Cx} (hu : X.A.units + 65 < cLine) : CallR X (.type "dict") (fun xs H Q => ∃ (a : Addr) (kvs : List (List Key × V)), xs = [.ref a] ∧ H a = some (.dT kvs) ∧ Apart X.w (kvs.map (·.1)) ∧ ∀ p, H p = none → Q (.ref p) (upd H p (.dT kvs))) := by
  intro pins s σ H xs us Q I r ⟨a, kvs, e1, e2, hap, q⟩
  subst e1
  obtain ⟨u, eu, rx⟩ := vals1 r
  subst eu
  cases rx
  obtain ⟨z, lo, ks, rel, dd⟩ := dt_of I.hok e2
  have lk : ks.length = kvs.length := (Paired.length rel).symm
  have ek : ks.map (·.1) = kvs.map (·.1) := by
    have key : ∀ {l : List (List Key × V)} {m : List (List Key × Addr × Value)}, KT H l m → m.map (·.1) = l.map (·.1) := by
      intro l m t
      induction t with
      | nil => rfl
      | cons c _ ih => simp only [List.map_cons, ih, c.1]
    exact key rel
  have hty : ∀ x ∈ ks, s.TypeIs (.ref x.2.1) "tuple" := fun x hx => by
    obtain ⟨_, _, _, _, _, _, _, his, _⟩ := id dd
    exact IsTupleKey.typeIs (his x hx)
  refine dict_ofH (knd := tupleKind (mixKind X.prog X.w)) (show X.A.units + 1 + 1 < cLine by omega) lo dd (fun h' k => ?_) hty ?_ (by rw [lk]; exact z) fun h' d' sb => ?_
  · exact Heap.DictOfH.at' dd (fun o e => k _ o e) fun y hy => tupleKind_stays.stays (fun b o _ _ e _ => k b o e) (let ⟨_, _, _, _, _, _, _, his, _⟩ := dd; his y hy)
  · have e : (ks.map fun x => (tupleKind (mixKind X.prog X.w)).hash x.1) = (ks.map (·.1)).map fun k => reduceHash (Builtin.Tuple.tupleHashOf (k.map (keyH X.w))) := by
      rw [List.map_map]
      rfl
    rw [e, ek]
    exact hap
  · have hm : (s.heap.objs.size == sysModules) = false := beq_eq_false_iff_ne.mpr (Nat.ne_of_gt I.big)
    have fr := I.hok.fresh (Nat.le_refl _)
    refine ⟨.ref s.heap.objs.size, upd H s.heap.objs.size (.dT kvs), I.laid (t' := s.toks) (fun b u e => (sb.2 b (Nat.ne_of_lt (Heap.lt_size e))).trans (Heap.get?_push_of_some _ e)) (Nat.le_refl _) ?_, rfl, q _ fr⟩
    obtain ⟨o, es, ep, k1, k2, k3, k4, _, k5⟩ := d'
    exact ⟨z, hm, ks, rel.keeps fun b ys e => by rw [upd_ne (ne_of_none e fr)]; exact e, o, es, ep, k1, k2, k3, k4, k5⟩
section
variable {ι : Type} {g : Gc} {l : Lc} {M : Md} {B S_0 H_0 : Hp} {G : List Slot} {pos p tpos p0 p1 p2 : Pos} {tg iter elt kx vx e a b : Expr} {ifs : List Expr} {scope : Scope} {own : List (Str × Nat)} {ts : List Ty} {t u : Ty} {vs : List Nat} {rest : List Stmt} {D : Ends}
theorem tys_pair {S : Hp} {kvs : List (List Key × Ty)} {ws : List (List Key × V)} (h : Kvs S kvs ws) : ws.map (·.1) = kvs.map (·.1) := h.keys
/-- a call that lays a new cell -/
theorem xf_callTy {T : String} {c : Cell} {f : List V → Hp → VK → Prop} {x : Str} (hc : ∀ X, At g l X → CallR X (.type T) f) (hr : ∀ S H vs (Q : VK), Ex S H → Tys S ts vs → (∀ p o, H p = none → c.is S o → Q (.ref p) (upd H p o)) → f vs H Q) (hm : g.mg x = none) (hv : bootBuiltins x = some (.type T)) (ha : XA g l M G [e] ts)
    (hg : l.sc.names.lookup x = some .globalImplicit := by rfl) (hn : x ≠ "__name__" := by decide) (hdb : (x == ("__debug__" : Str)) = false := by decide)
    (he : ∀ env, starEach [e] env = (false, eval e env) :: starEach [] env := by intro _; rfl) (hpl : ∀ env, (backTo pos (starEach [] env)).any (·.1) = false := by intro _; rfl) : XF g l M G (.Call (.Name x p) [e] [] pos) (fun _ : Unit => True) (fun _ => c) := fun X A =>
  conv (pe_callTy (hc X A) (A.gl hg) (by rw [A.mg]; exact hm) hv (ha X A) hn hdb (he _) (hpl _)) fun σ H Q ⟨S, pr, q⟩ => tA.step pr fun vs S1 H1 q1 p1 h1 =>
    hr S1 H1 vs Q p1.1 h1 fun w o hw ho => q () w S1 _ o trivial (q1.trans (Post.of p1.2.1 (Gr.lay p1.1 hw))) (q1.1.fresh hw) (p1.1.none hw) upd_same ho
theorem boot_dict' : bootBuiltins ("dict" : Str) = some (.type "dict") := by decide +kernel
/-- dict(d) -/
theorem xf_dictT {kvs : List (List Key × Ty)} (h : XE g l M G e (tDT kvs)) (hap : Apart g.w (kvs.map (·.1))) (hm : g.mg "dict" = none) (hg : l.sc.names.lookup ("dict" : Str) = some .globalImplicit := by rfl)
    (he : ∀ env, starEach [e] env = (false, eval e env) :: starEach [] env := by intro _; rfl) (hpl : ∀ env, (backTo pos (starEach [] env)).any (·.1) = false := by intro _; rfl) : XF g l M G (.Call (.Name "dict" p) [e] [] pos) (fun _ : Unit => True) (fun _ => .dT kvs) :=
  xf_callTy (f := fun xs H Q => ∃ (a : Addr) (kvs : List (List Key × V)), xs = [.ref a] ∧ H a = some (.dT kvs) ∧ Apart g.w (kvs.map (·.1)) ∧ ∀ p, H p = none → Q (.ref p) (upd H p (.dT kvs))) (fun X A => by rw [← A.w]; exact call_dictT (units65 A)) (fun S H vs Q ex k q => by
    obtain ⟨v, rfl, d, ws, rfl, h2, h3⟩ := k.one
    exact ⟨d, ws, rfl, ex _ _ h2, by rw [h3.keys]; exact hap, fun p hp => q p _ hp ⟨ws, rfl, h3⟩⟩) hm boot_dict' (xa_1 h he) hg (by decide) (by decide) he hpl
theorem xf_dictK {kvs : List (Key × Ty)} (h : XE g l M G e (tDK kvs)) (hm : g.mg "dict" = none) (hg : l.sc.names.lookup ("dict" : Str) = some .globalImplicit := by rfl)
    (he : ∀ env, starEach [e] env = (false, eval e env) :: starEach [] env := by intro _; rfl) (hpl : ∀ env, (backTo pos (starEach [] env)).any (·.1) = false := by intro _; rfl) : XF g l M G (.Call (.Name "dict" p) [e] [] pos) (fun _ : Unit => True) (fun _ => .dK kvs) :=
  xf_callTy (fun X A => call_dictD) (fun S H vs Q ex k q => by
    obtain ⟨v, rfl, d, ws, rfl, h2, h3⟩ := k.one
    exact ⟨d, ws, rfl, .of (ex _ _ h2), fun p hp => q p _ hp ⟨ws, rfl, h3⟩⟩) hm boot_dict' (xa_1 h he) hg (by decide) (by decide) he hpl

/-! reads -/
theorem NoSl_of {i : Expr} (h : ∀ ov iv, subscripted i false ov iv = operate [ov, iv] (getItem ov iv)) : NoSl i := h
end
section
variable {κ β : Type} [DecidableEq κ]
def valA (kvs : List (κ × β)) (k : κ) : Option β := (kvs.find? fun q => decide (q.1 = k)).map (·.2)
theorem valA_nil {k : κ} : valA ([] : List (κ × β)) k = none := rfl
theorem valA_cons {j k : κ} {v : β} {r : List (κ × β)} : valA ((j, v) :: r) k = if j = k then some v else valA r k := by
  unfold valA
  by_cases e : j = k
  · rw [List.find?_cons_of_pos (by simpa using e), if_pos e]; rfl
  · rw [List.find?_cons_of_neg (by simpa using e), if_neg e]
theorem Kvs.val {S : Hp} {ts : List (κ × Ty)} {ws : List (κ × V)} (h : Kvs S ts ws) (k : κ) : match valA ts k with
    | some t => ∃ v, valV ws k = some v ∧ t.is S v
    | none => valV ws k = none := by
  induction h with
  | nil => exact rfl
  | @cons j t v us vs hv _ ih =>
    rw [valA_cons]
    by_cases e : j = k
    · rw [if_pos e]
      exact ⟨v, valV_pos e, hv⟩
    · rw [if_neg e, valV_neg e]
      exact ih
theorem Kvs.some {S : Hp} {ts : List (κ × Ty)} {ws : List (κ × V)} (h : Kvs S ts ws) {k : κ} {t : Ty} (e : valA ts k = some t) : ∃ v, valV ws k = some v ∧ t.is S v := by
  have := h.val k
  rw [e] at this
  exact this
theorem Kvs.none {S : Hp} {ts : List (κ × Ty)} {ws : List (κ × V)} (h : Kvs S ts ws) {k : κ} (e : valA ts k = none) : valV ws k = none := by
  have := h.val k
  rw [e] at this
  exact this
/-- set by default -/
def setdA (kvs : List (κ × β)) (k : κ) (v : β) : List (κ × β) := match valA kvs k with
  | some _ => kvs
  | none => putA kvs k v
end
section
variable {ι : Type} {g : Gc} {l : Lc} {M : Md} {B S_0 H_0 : Hp} {G : List Slot} {pos tpos p0 p1 p2 pos' : Pos} {tg iter elt kx vx e f a b w value : Expr} {ifs : List Expr} {scope : Scope} {own : List (Str × Nat)} {ts : List Ty} {t u : Ty} {vs : List Nat} {rest : List Stmt} {D : Ends} {d d2 : PyData} {n n2 : Nat}
theorem x_getT {kvs : List (List Key × Ty)} {k : List Key} (ha : XE g l M G a (tDT kvs)) (hb : XE g l M G b (tKs k)) (hv : valA kvs k = some t) (hs : NoSl b := by exact fun _ _ => rfl) : XE g l M G (.Subscript a b pos) t := fun X A =>
  conv (pe_dget (by have := A.room.un; omega) (ha X A) (hb X A) hs) fun σ H Q ⟨S, pr, q⟩ => tE.step pr fun v S1 H1 q1 p1 ⟨x, ws, e1, h1, h2⟩ => tE.step p1 fun y S2 H2 q2 p2 h3 => by
    subst e1
    obtain ⟨c, e3, h4⟩ := tKs_is h3
    subst e3
    obtain ⟨z, h5, h6⟩ := h2.some hv
    exact ⟨x, z, rfl, by rw [← h5]; exact .t (p2.1 _ _ (q2.1.ss _ _ h1)) (p2.1 _ _ h4), q z S2 H2 (q1.trans q2) (t.mono q2.1.ss h6)⟩
theorem x_getK {kvs : List (Key × Ty)} {k : Key} (ha : XE g l M G a (tDK kvs)) (hb : XE g l M G b (tKy k)) (hv : valA kvs k = some t) (hs : NoSl b := by exact fun _ _ => rfl) : XE g l M G (.Subscript a b pos) t := fun X A =>
  conv (pe_dget (by have := A.room.un; omega) (ha X A) (hb X A) hs) fun σ H Q ⟨S, pr, q⟩ => tE.step pr fun v S1 H1 q1 p1 ⟨x, ws, e1, h1, h2⟩ => tE.step p1 fun y S2 H2 q2 p2 h3 => by
    subst e1
    rw [tKy_is.mp h3]
    obtain ⟨z, h5, h6⟩ := h2.some hv
    exact ⟨x, z, rfl, by rw [← h5]; exact .k (p2.1 _ _ (q2.1.ss _ _ h1)), q z S2 H2 (q1.trans q2) (t.mono q2.1.ss h6)⟩
/-- list(d) -/
theorem keys_tys {S : Hp} : ∀ {kvs : List (List Key × V)} {bs : List Addr}, IsKeys S kvs bs → Tys S (kvs.map fun q => tKs q.1) (bs.map V.ref) := by
  intro kvs bs h
  induction h with
  | nil => exact .nil
  | cons a _ ih => exact .cons (tKs_of a) ih
theorem keys_learn {H : Hp} : ∀ {kvs : List (List Key × V)} {bs : List Addr} {S : Hp}, IsKeys H kvs bs → Ex S H → ∃ S', Gr no S H S' H ∧ IsKeys S' kvs bs := by
  intro kvs bs S h
  induction h generalizing S with
  | nil => intro e; exact ⟨S, Gr.refl e, .nil⟩
  | @cons q b r bs a _ ih =>
    intro e
    obtain ⟨S1, g1, k1⟩ := ih e
    have g2 := Gr.learn g1.sh a
    refine ⟨_, g1.trans g2, .cons upd_same (Paired.mapP k1 fun x y z => ?_)⟩
    exact g2.ss _ _ z
theorem x_lstD {kvs : List (List Key × Ty)} (h : XE g l M G a (tDT kvs)) (hm : g.mg "list" = none) (hg : l.sc.names.lookup ("list" : Str) = some .globalImplicit := by rfl) (hs : ∀ env, starEach [a] env = (false, eval a env) :: starEach [] env := by intro _; rfl) (hpl : ∀ env, (backTo pos (starEach [] env)).any (·.1) = false := by intro _; rfl) : XE g l M G (.Call (.Name "list" p0) [a] [] pos) (tLs (kvs.map fun q => tKs q.1)) :=
  x_callTy (fun X A => call_list_dT A.calm) (fun S H vs Q e k q => by
    obtain ⟨v, rfl, d, ws, rfl, h2, h3⟩ := k.one
    refine ⟨d, ws, rfl, .of (e _ _ h2), fun p bs hp hk => ?_⟩
    obtain ⟨S1, g1, k1⟩ := keys_learn hk e
    have gr := Gr.new (o := .lst (bs.map V.ref)) g1.sh hp
    have tk := (keys_tys k1).mono gr.ss
    have ek : (ws.map fun q => tKs q.1) = kvs.map fun q => tKs q.1 := by
      have := congrArg (List.map tKs) h3.keys
      rw [List.map_map, List.map_map] at this
      exact this
    rw [ek] at tk
    exact q _ _ _ (g1.trans gr) ⟨p, _, rfl, upd_same, tk⟩) hm boot_list' (xa_1 h hs) hg (by decide) (by decide) hs hpl
theorem x_lstDK {kvs : List (Key × Ty)} (h : XE g l M G a (tDK kvs)) (hm : g.mg "list" = none) (hg : l.sc.names.lookup ("list" : Str) = some .globalImplicit := by rfl) (hs : ∀ env, starEach [a] env = (false, eval a env) :: starEach [] env := by intro _; rfl) (hpl : ∀ env, (backTo pos (starEach [] env)).any (·.1) = false := by intro _; rfl) : XE g l M G (.Call (.Name "list" p0) [a] [] pos) (tLs (kvs.map fun q => tKy q.1)) :=
  x_callTy (fun X A => call_listD A.calm) (fun S H vs Q e k q => by
    obtain ⟨v, rfl, d, ws, rfl, h2, h3⟩ := k.one
    refine ⟨d, ws, rfl, .of (e _ _ h2), fun p hp => ?_⟩
    have gr := Gr.new (o := .lst (ws.map fun kv => kV kv.1)) e hp
    have ek : (ws.map fun q => kV q.1) = (kvs.map (·.1)).map kV := by
      rw [← h3.keys, List.map_map]
      rfl
    refine q _ _ _ gr ⟨p, _, rfl, upd_same, ?_⟩
    rw [ek, show (kvs.map fun q => tKy q.1) = (kvs.map (·.1)).map tKy by rw [List.map_map]; rfl]
    exact Tys.map fun x _ => tKy_is.mpr rfl) hm boot_list' (xa_1 h hs) hg (by decide) (by decide) hs hpl

/-! set by default: a value, and the cell behind it -/
def tWr (M : Md) (G : List Slot) (p : Addr) (c' : Cell) (t : Ty) : TE := fun σ H Q => ∃ S, Pre M G σ S H ∧ ∀ v S' H' o, Post M S H S' H' → Pre M G σ S' H' → c'.is S' o → t.is S' v → Q v (upd H' p o)
theorem upd_self {H : Hp} {a : Addr} {o : HO} (h : H a = some o) : upd H a o = H := by
  funext b
  by_cases e : b = a
  · subst e; rw [upd_same, h]
  · rw [upd_ne e]
theorem m2_of {X : Cx} {o : Expr} {apos cpos : Pos} (hb : ∀ env, attributeBase o "setdefault" env (eval o env) = eval o env) (hf : ∀ env, ((backTo cpos (starEach [e, f] env)).all (fun x => !x.1) && (backToKw cpos (keywordEach [] env)).all (fun x => x.1.isSome)
    && decide (([e, f] : List Expr).length + ([] : List Keyword).length + (if ([] : List Keyword).isEmpty then 0 else 1) < 30)) = true) (hl : (apos.endLine == cpos.line) = true) (ht : ∀ env, backTo cpos (starEach [e, f] env) = [(false, eval e env), (false, eval f env)]) : M2 X o "setdefault" apos e f cpos := ⟨hb _, hf _, hl, ht _⟩
theorem pe_setdK {kvs : List (Key × Ty)} {k : Key} {x : Str} {p : Addr} (i : Nat) (hG : G[i]? = some (.own p (.dK kvs))) (he : XE g l M G e (tKy k)) (hf : XE g l M G f u) (hz : kvs.length < 100000) (hN : l.N[i]? = some x)
    (hv : Vis l.sc x) (h1 : (x == ("__debug__" : Str)) = false) (h2 : (x == ("__classdict__" : Str)) = false) (hm : ∀ X, M2 X (.Name x p0) "setdefault" p1 e f p2) {X : Cx} (A : At g l X) :
    PE X (.Call (.Attribute (.Name x p0) "setdefault" p1) [e, f] [] p2) (tWr M G p (.dK (setdA kvs k u)) ((valA kvs k).getD u)) :=
  conv (pe_dsetd (pe_var (i := i) (by rw [A.N]; exact hN) (A.vis hv) h1 h2) (he X A) (hf X A) (hm X)) fun σ H Q ⟨S, pr, q⟩ => by
    obtain ⟨y, k1, k2, k3, k4, o, k5, zs, k6, k7⟩ := pr.2.2.at_ i _ hG
    subst k2 k6
    refine ⟨_, k1, p, rfl, .inl ⟨zs, .of k5⟩, tE.step pr fun v S1 H1 q1 p1 hv1 => tE.step p1 fun w S2 H2 q2 p2 hw => ?_⟩
    obtain ⟨y2, m1, m2, m3, m4, o2, m5, ws, m6, m7⟩ := p2.2.2.at_ i _ hG
    subst m2 m6
    rw [tKy_is.mp hv1]
    have hl : ws.length < sizeLine := by
      have k3 : (100000 : Nat) < sizeLine := by decide
      have := m7.len
      omega
    refine ⟨ws, k, m5, rfl, hl, fun z hz => ?_, fun hz => ?_⟩
    · cases hc : valA kvs k with
      | none => rw [m7.none hc] at hz; cases hz
      | some t =>
        obtain ⟨z2, e1, e2⟩ := m7.some hc
        rw [hz] at e1
        cases e1
        have := q z S2 H2 (.dK ws) (q1.trans q2) p2 ⟨ws, rfl, by unfold setdA; rw [hc]; exact m7⟩ (by rw [hc]; exact e2)
        rw [upd_self m5] at this
        exact this
    · cases hc : valA kvs k with
      | some t =>
        obtain ⟨z2, e1, e2⟩ := m7.some hc
        rw [hz] at e1
        cases e1
      | none => exact q w S2 H2 (.dK (putK ws k w)) (q1.trans q2) p2 ⟨_, rfl, by unfold setdA; rw [hc]; exact m7.put k hw⟩ (by rw [hc]; exact hw)
theorem d_setdT {X : Cx} {pins : List (Addr × Obj)} {σ : L2.St} {H : Hp} {s : Shared} {c y : Addr} {A : Around} {E : Value → Shared → Prop} {kvs : List (List Key × V)} {k : List Key} {v : V} {r : Value} {Q : Value → Shared → Prop} (hu : A.units + 1 < cLine) (I : Inv X pins σ H s) (e : H c = some (.dT kvs)) (ey : H y = some (.tup (k.map kV))) (rd : RelV v r) (hl : kvs.length < sizeLine)
    (h1 : ∀ z, valV kvs k = some z → ∀ (w' : Value) (s' : Shared), Inv X pins σ H s' → RelV z w' → Q w' s') (h2 : valV kvs k = none → ∀ (w' : Value) (s' : Shared), Inv X pins σ (upd H c (.dT (putK kvs k v))) s' → RelV v w' → Q w' s') :
    wpAny (model X.prog X.w) A (call (.builtin "dict.setdefault") [.ref c, .ref y, r]) Q E s := by
  obtain ⟨z, hd, xs, rel, dd⟩ := dt_of I.hok e
  have lx : xs.length ≤ sizeLine := by
    rw [← Paired.length rel]
    exact z
  have rv := rel.val k
  refine call_setdefault_heap (hsz := lx) (knd := tupleKind (mixKind X.prog X.w)) (tupleKind_room_in1 hu) (key_of I.hok ey) hd dd (fun q hq => ?_) fun hn h' dd' sb => ?_
  · rw [hq] at rv
    cases hc : valV kvs k with
    | none => rw [hc] at rv; exact (show False from rv).elim
    | some z2 => rw [hc] at rv; exact h1 z2 hc _ _ (I.tok _) rv
  · rw [hn] at rv
    cases hc : valV kvs k with
    | some z2 => rw [hc] at rv; exact (show False from rv).elim
    | none =>
      have ln := length_putK kvs k v
      obtain ⟨q, es, ep, hq, m2, m3, m4, _, m5⟩ := dd'
      have keep : KT (upd H c (.dT (putK kvs k v))) (putK kvs k v) (storedH xs k y r) := (rel.put k ey rd).keeps fun b ys ec => by
        rw [upd_ne (ne_of ec e fun z => nomatch z)]
        exact ec
      exact h2 hc _ _ (d_write I (by rw [e]; trivial) sb ⟨q, hq⟩ ⟨by omega, hd, _, keep, q, es, ep, hq, m2, m3, m4, m5⟩) rd
def tDSetT (td ty tx : TE) : TE := fun σ H Q => td σ H fun x H1 => ∃ a, x = .ref a ∧ IsD H1 a ∧ ty σ H1 fun y H2 => tx σ H2 fun z H3 => ∃ (kvs : List (List Key × V)) (k : List Key) (b : Addr), H3 a = some (.dT kvs) ∧ y = .ref b ∧ H3 b = some (.tup (k.map kV)) ∧ kvs.length < sizeLine ∧
  (∀ v, valV kvs k = some v → Q v H3) ∧ (valV kvs k = none → Q z (upd H3 a (.dT (putK kvs k z))))
theorem pe_dsetT {X : Cx} {o : Expr} {td ty tx : TE} {apos cpos : Pos} (hu : X.A.units + 1 < cLine) (ho : PE X o td) (he : PE X e ty) (hf : PE X f tx) (m : M2 X o "setdefault" apos e f cpos) : PE X (.Call (.Attribute o "setdefault" apos) [e, f] [] cpos) (tDSetT td ty tx) := by
  refine ⟨fun pins s σ H Q I h => ?_⟩
  refine wpAny_Call_method m.base m.few m.line PySem.F.plainAttrs_dict PySem.F.slot_dict_setdefault PySem.F.type_dict_setdefault (thn (ho.run pins s σ H _ I h) fun w s1 ⟨x, H1, I1, rx, a, ex, d, q1⟩ => ?_)
  subst ex
  cases rx
  obtain ⟨t1, t2, _⟩ := isD_at I1 d
  refine ⟨t1, t2, ?_⟩
  rw [m.trees]
  refine Calls.callWith_builtin rfl (Calls.evalArgs_plain (Calls.spliced_cons (thn (he.run pins s1 σ H1 _ I1 q1) fun iv s2 ⟨y, H2, I2, ry, q2⟩ =>
    Calls.spliced_cons (thn (hf.run pins s2 σ H2 _ I2 q2) fun fv s3 ⟨z, H3, I3, rz, kvs, k, b, ea, ey, eb, hl, q3, q4⟩ => Calls.spliced_nil ?_))))
  subst ey
  cases ry
  exact d_setdT hu I3 ea eb rz hl (fun v hv w' s4 I4 rw' => ⟨v, _, I4, rw', q3 v hv⟩) fun hn w' s4 I4 rw' => ⟨z, _, I4, rw', q4 hn⟩
theorem pe_setdT {kvs : List (List Key × Ty)} {k : List Key} {x : Str} {p : Addr} (i : Nat) (hG : G[i]? = some (.own p (.dT kvs))) (he : XE g l M G e (tKs k)) (hf : XE g l M G f u) (hz : kvs.length < 100000) (hN : l.N[i]? = some x)
    (hv : Vis l.sc x) (h1 : (x == ("__debug__" : Str)) = false) (h2 : (x == ("__classdict__" : Str)) = false) (hm : ∀ X, M2 X (.Name x p0) "setdefault" p1 e f p2) {X : Cx} (A : At g l X) :
    PE X (.Call (.Attribute (.Name x p0) "setdefault" p1) [e, f] [] p2) (tWr M G p (.dT (setdA kvs k u)) ((valA kvs k).getD u)) :=
  conv (pe_dsetT (by have := A.room.un; omega) (pe_var (i := i) (by rw [A.N]; exact hN) (A.vis hv) h1 h2) (he X A) (hf X A) (hm X)) fun σ H Q ⟨S, pr, q⟩ => by
    obtain ⟨y, k1, k2, k3, k4, o, k5, zs, k6, k7⟩ := pr.2.2.at_ i _ hG
    subst k2 k6
    refine ⟨_, k1, p, rfl, .inr ⟨zs, .of k5⟩, tE.step pr fun v S1 H1 q1 p1 hv1 => tE.step p1 fun w S2 H2 q2 p2 hw => ?_⟩
    obtain ⟨y2, m1, m2, m3, m4, o2, m5, ws, m6, m7⟩ := p2.2.2.at_ i _ hG
    subst m2 m6
    obtain ⟨c, ec, hc1⟩ := tKs_is hv1
    subst ec
    have hl : ws.length < sizeLine := by
      have k3 : (100000 : Nat) < sizeLine := by decide
      have := m7.len
      omega
    refine ⟨ws, k, c, m5, rfl, p2.1 _ _ (q2.1.ss _ _ hc1), hl, fun z hz => ?_, fun hz => ?_⟩
    · cases hc : valA kvs k with
      | none => rw [m7.none hc] at hz; cases hz
      | some t =>
        obtain ⟨z2, e1, e2⟩ := m7.some hc
        rw [hz] at e1
        cases e1
        have := q z S2 H2 (.dT ws) (q1.trans q2) p2 ⟨ws, rfl, by unfold setdA; rw [hc]; exact m7⟩ (by rw [hc]; exact e2)
        rw [upd_self m5] at this
        exact this
    · cases hc : valA kvs k with
      | some t =>
        obtain ⟨z2, e1, e2⟩ := m7.some hc
        rw [hz] at e1
        cases e1
      | none => exact q w S2 H2 (.dT (putK ws k w)) (q1.trans q2) p2 ⟨_, rfl, by unfold setdA; rw [hc]; exact m7.put k hw⟩ (by rw [hc]; exact hw)
theorem wr2 {σ : L2.St} {S H : Hp} {i : Nat} {p : Addr} {c c' : Cell} {o : HO} (h2 : Ent M S_0 H_0 S H) (pr : Pre M G σ S H) (hG : G[i]? = some (.own p c)) (k : c'.is S o) : Ent M S_0 H_0 S (upd H p o) ∧ Pre M (G.set i (.own p c')) σ S (upd H p o) := by
  obtain ⟨x, _, _, m3, m4, o0, m5, m6⟩ := pr.2.2.at_ i _ hG
  have hp : H_0 p = none := by
    cases e : H_0 p with
    | none => rfl
    | some u => exact absurd ((h2.dm p).mpr (by rw [e]; exact fun z => nomatch z)) m3.2
  have gw := h2.gr.write (o := o) hp m4
  exact ⟨⟨gw, h2.dm⟩, gw.sh, M.stabW m3.1 (fun f => by rw [m5]; exact fun z => Cell.nx m6 _ f (Option.some.inj z)) pr.2.1, Env.wr pr.2.2 hG k⟩
/-- name = (a value with its cell) == w -/
theorem xb_setd {c c' : Cell} {y : Str} {py cpos spos : Pos} {call : Expr} {p : Addr} (i j : Nat) (hG : G[i]? = some (.own p c)) (hpe : ∀ X, At g l X → PE X call (tWr M G p c' t)) (s1 : isD t d) (s2 : isD u d2) (n1 : Dt d n) (m2 : Dt d2 n2) (hw : XE g l M (G.set i (.own p c')) w u)
    (k : XB g l (Ct M B S_0 H_0 ((G.set i (.own p c')).set j (.ty (tBl (PyData.eqv d d2))))) rest D) (hn : n ≤ 64 := by decide) (hn2 : n2 ≤ 64 := by decide) (hN : l.N[j]? = some y := by rfl) (hx : Loc l.sc y := by first | exact Or.inl rfl | exact Or.inr rfl) (hf : l.fn y = true ∨ l.sc.names.lookup y = some .local := by first | exact Or.inl rfl | exact Or.inr rfl)
    (hm : behindInMarks .Eq w = false := by first | exact nomark _ | rfl) (hs : ∀ env, swapsWith (.Compare call [.Eq] [w] cpos) (some (.Name y py)) spos.line env = pure false := by intro _; rfl) : XB g l (Ct M B S_0 H_0 G) (.Assign [.Name y py] (.Compare call [.Eq] [w] cpos) spos :: rest) D :=
  xb_cons (Ct M B S_0 H_0 ((G.set i (.own p c')).set j (.ty (tBl (PyData.eqv d d2))))) (fun X A =>
    convS (ps_set (by rw [A.N]; exact A.nd) (by rw [A.N]; exact hN) (A.loc hx) (pe_cmpR (op_eqA A) (hpe X A) (hw X A) hm) (hs _) (A.sto hf)) fun D' σ H ⟨ct, le⟩ => by
      obtain ⟨S, c1, c2, pr⟩ := ct.get
      refine ⟨S, pr, fun v S1 H1 o q1 p1 ho hv => ?_⟩
      obtain ⟨e2, p2⟩ := wr2 (c2.trans q1.1) p1 hG ho
      refine tE.step p2 fun v2 S2 H2 q2 p3 hv2 => ⟨d, d2, s1 _ S2 H2 _ p3.1 (t.mono q2.1.ss hv), s2 _ S2 H2 _ p3.1 hv2, n1.shaped hn, m2.shaped hn2, le.nx _ _ ?_⟩
      exact .of ((c1.comp q1.1.ss).comp q2.1.ss) (e2.trans q2.1) ⟨p3.1, p3.2.1, p3.2.2.put j rfl⟩) k
/-- found[key] = value -/
theorem xb_put {kvs : List (List Key × Ty)} {k : List Key} {x : Str} {px py sp spos : Pos} {p : Addr} (i : Nat) (hG : G[i]? = some (.own p (.dT kvs))) (hk : XE g l M G kx (tKs k)) (hv : XE g l M G value u) (hz : kvs.length < 100000)
    (kk : XB g l (Ct M B S_0 H_0 (G.set i (.own p (.dT (putA kvs k u))))) rest D) (hN : l.N[i]? = some x := by rfl) (hvis : Vis l.sc x := by first | exact Or.inl rfl | exact Or.inr (Or.inl rfl) | exact Or.inr (Or.inr rfl)) (h1 : (x == ("__debug__" : Str)) = false := by decide) (h2 : (x == ("__classdict__" : Str)) = false := by decide)
    (hs : ∀ env, swapsWith value (some (.Subscript (.Name x px) kx sp)) spos.line env = pure false := by intro _; rfl) : XB g l (Ct M B S_0 H_0 G) (.Assign [.Subscript (.Name x px) kx sp] value spos :: rest) D :=
  xb_cons (Ct M B S_0 H_0 (G.set i (.own p (.dT (putA kvs k u))))) (fun X A =>
    convS (ps_dput (by have := A.room.un; omega) (pe_var (i := i) (by rw [A.N]; exact hN) (A.vis hvis) h1 h2) (hk X A) (hv X A) (hs _)) fun D' σ H ⟨ct, le⟩ => by
      obtain ⟨S, c1, c2, pr⟩ := ct.get
      refine tE.step pr fun v S1 H1 q1 p1 hv1 => ?_
      obtain ⟨y, k1, k2, k3, k4, o, k5, zs, k6, k7⟩ := p1.2.2.at_ i _ hG
      subst k2
      refine ⟨_, k1, tE.step p1 fun w S2 H2 q2 p2 hw => ?_⟩
      obtain ⟨y2, m1, m2, m3, m4, o2, m5, ws, m6, m7⟩ := p2.2.2.at_ i _ hG
      subst m2 m6
      obtain ⟨b, eb, hb⟩ := tKs_is hw
      subst eb
      have hl : ws.length < sizeLine := by
        have k3 : (100000 : Nat) < sizeLine := by decide
        have := m7.len
        omega
      refine ⟨p, _, rfl, .t m5 (p2.1 _ _ hb) hl, le.nx _ _ ?_⟩
      exact Ct.wr ((c1.comp q1.1.ss).comp q2.1.ss) ((c2.trans q1.1).trans q2.1) p2 hG ⟨_, rfl, m7.put k (u.mono q2.1.ss hv1)⟩) kk
end
end Z
end

section
set_option autoImplicit false
/-! Y2: a < b of tuples and lists where what lies behind the first difference need not compare. -/
namespace ZL
open PySem PySem.W PySem.SeqAt PyProof.Rows
open AutoSeq1 (wpAny_loadPart')
open MeetsSeq MeetsSeq2 MeetsSeq3 SeqRoads2
/-- all places ahead of j are equal -/
def Ahead (e : Nat → Bool) (j : Nat) : Prop := ∀ i, i < j → e i = true
theorem Ahead.next {e : Nat → Bool} {j : Nat} (h : Ahead e j) (k : e j = true) : Ahead e (j + 1) := fun i hi => by
  by_cases q : i = j
  · rw [q]; exact k
  · exact h i (by omega)
/-- what two rows of items ask -/
structure Cmp2 (A : Around) (s : Shared) (xs ys : Array Value) (e r : Nat → Bool) : Prop where
  eq : ∀ j (h1 : j < xs.size) (h2 : j < ys.size), EqAt A.in1 s xs[j] ys[j] (e j)
  lt : ∀ j (h1 : j < xs.size) (h2 : j < ys.size), Ahead e j → e j = false → RcLt A.in1 s xs[j] ys[j] (r j)
def ltB (xs ys : Array Value) (e r : Nat → Bool) (i : Nat) : Bool := firstLt e r (decide (xs.size < ys.size)) ((List.range (min xs.size ys.size)).drop i)
theorem ltB_at {xs ys : Array Value} {e r : Nat → Bool} {i : Nat} (h : i < min xs.size ys.size) : ltB xs ys e r i = if e i = true then ltB xs ys e r (i + 1) else r i := by
  have hd : (List.range (min xs.size ys.size)).drop i = i :: (List.range (min xs.size ys.size)).drop (i + 1) := by simp [List.drop_eq_getElem_cons, h]
  show firstLt _ _ _ ((List.range (min xs.size ys.size)).drop i) = _
  rw [hd]
  cases q : e i with
  | true => rw [firstLt_yes q, if_pos rfl]; rfl
  | false => rw [firstLt_no q, if_neg Bool.false_ne_true]
theorem ltB_end {xs ys : Array Value} {e r : Nat → Bool} {i : Nat} (h : min xs.size ys.size ≤ i) : ltB xs ys e r i = decide (xs.size < ys.size) := by
  unfold ltB
  rw [List.drop_of_length_le (by rw [List.length_range]; exact h)]
  rfl
theorem tup_lt1 (a b : Addr) (xs ys : Array Value) (n m : Nat) (dd de : Option Addr) (sl sm : Array (Option Value)) (e r : Nat → Bool) :
    Meets (Builtin.«tuple.__lt__» ⟨[.ref a, .ref b], []⟩) (fun A R s => s.heap.get? a = some { cls := .type "tuple", dict := dd, data := .seq xs n, slots := sl } ∧ s.heap.get? b = some { cls := .type "tuple", dict := de, data := .seq ys m, slots := sm } ∧
        Cmp2 A s xs ys e r ∧ R (.ok (.ret (.bool (ltB xs ys e r 0)))) s) :=
  .of_wp fun prog w A R s h => by
    obtain ⟨hp, g, d, tk, os⟩ := s
    obtain ⟨ha, hb, c, hR⟩ := h
    have f2 := AutoSeq1.sub_tuple_tuple
    have hZ : (xs.toList.zip ys.toList).length = min xs.size ys.size := by simp
    wp_walk using wpAny_loadPart' ha, wpAny_loadPart' hb, wpAny_forIn_list _ (fun rest q s' => q.1 = none ∧ s' = ⟨hp, g, d, tk, os⟩ ∧ ∃ i, rest = (xs.toList.zip ys.toList).drop i ∧ Ahead e i ∧ R (.ok (.ret (.bool (ltB xs ys e r i)))) ⟨hp, g, d, tk, os⟩) _
    case turn =>
      rintro ⟨y, x⟩ rest q s' ⟨hq, rfl, i, hz, ah, hR⟩
      have hlt : i < (xs.toList.zip ys.toList).length := by
        rcases Nat.lt_or_ge i (xs.toList.zip ys.toList).length with z | z
        · exact z
        · rw [List.drop_of_length_le z] at hz; cases hz
      have hm : i < min xs.size ys.size := hZ ▸ hlt
      have h1 : i < xs.size := Nat.lt_of_lt_of_le hm (Nat.min_le_left _ _)
      have h2 : i < ys.size := Nat.lt_of_lt_of_le hm (Nat.min_le_right _ _)
      rw [List.drop_eq_getElem_cons hlt] at hz
      injection hz with hyx hrest
      have hy : y = xs[i] := by simpa using congrArg Prod.fst hyx
      have hx : x = ys[i] := by simpa using congrArg Prod.snd hyx
      subst hy hx
      rw [ltB_at hm] at hR
      refine wpAny_bind (c.eq i h1 h2 prog w _ _ ?_)
      cases q : e i with
      | true =>
        rw [q, if_pos rfl] at hR
        wp_walk
        exact ⟨rfl, rfl, i + 1, hrest, ah.next q, hR⟩
      | false =>
        rw [q, if_neg Bool.false_ne_true] at hR
        generalize hrc : richCompare CmpOp.Lt xs[i] ys[i] = rc
        wp_walk
        subst hrc
        refine c.lt i h1 h2 ah q prog w _ _ ?_
        wp_walk
        exact ⟨_, rfl, hR⟩
    case fin =>
      rintro ⟨q1, q2⟩ s' ⟨hq, rfl, i, hz, ah, hR⟩
      simp only at hq
      subst hq
      have hge : min xs.size ys.size ≤ i := by
        rcases Nat.lt_or_ge i (xs.toList.zip ys.toList).length with z | z
        · rw [List.drop_eq_getElem_cons z] at hz; cases hz
        · exact hZ ▸ z
      rw [ltB_end hge] at hR
      wp_walk
      exact ⟨_, rfl, by simpa [Builtin.Tuple.tupleCompareSizes] using hR⟩
    case h => exact ⟨rfl, rfl, 0, rfl, fun i hi => absurd hi (Nat.not_lt_zero _), hR⟩
theorem lst_loop1 (a b : Addr) (xs ys : Array Value) (n m : Nat) (dd de : Option Addr) (sl sm : Array (Option Value)) (e r : Nat → Bool) (k : Nat) :
    ∀ i : Nat, min xs.size ys.size - i = k → Meets (Builtin.«list.__eq__.loop» ⟨[.ref a, .ref b, rawInt i, rawInt 0], []⟩) (fun A R s => s.heap.get? a = some { cls := .type "list", dict := dd, data := .seq xs n, slots := sl } ∧ s.heap.get? b = some { cls := .type "list", dict := de, data := .seq ys m, slots := sm } ∧
        Cmp2 A s xs ys e r ∧ Ahead e i ∧ R (.ok (.ret (.bool (ltB xs ys e r i)))) s) := by
  induction k with
  | zero =>
    intro i hk prog w A R s h
    obtain ⟨hp, g, d, tk, os⟩ := s
    obtain ⟨ha, hb, c, ah, hR⟩ := h
    rw [ltB_end (by omega)] at hR
    wp_walk using wpAny_loadPart' ha, wpAny_loadPart' hb
    by_cases z : xs.size ≤ i
    · have o1 : xs[((i : Nat) : Int).toNat]? = none := by simp; omega
      rw [o1]
      wp_walk using wpAny_loadPart' ha, wpAny_loadPart' hb
      exact hR
    · have lt1 : i < xs.size := by omega
      have o1 : xs[((i : Nat) : Int).toNat]? = some xs[i] := by simp [lt1]
      have o2 : ys[((i : Nat) : Int).toNat]? = none := by simp; omega
      rw [o1, o2]
      wp_walk using wpAny_loadPart' ha, wpAny_loadPart' hb
      exact hR
  | succ k ih =>
    intro i hk prog w A R s h
    obtain ⟨hp, g, d, tk, os⟩ := s
    obtain ⟨ha, hb, c, ah, hR⟩ := h
    wp_walk using wpAny_loadPart' ha, wpAny_loadPart' hb
    have hm : i < min xs.size ys.size := by omega
    have lt1 : i < xs.size := Nat.lt_of_lt_of_le hm (Nat.min_le_left _ _)
    have lt2 : i < ys.size := Nat.lt_of_lt_of_le hm (Nat.min_le_right _ _)
    have o1 : xs[((i : Nat) : Int).toNat]? = some xs[i] := by simp [lt1]
    have o2 : ys[((i : Nat) : Int).toNat]? = some ys[i] := by simp [lt2]
    have hc : ((i : Int) + 1) = ((i + 1 : Nat) : Int) := by push_cast; rfl
    rw [ltB_at hm] at hR
    rw [o1, o2]
    refine wpAny_bind (c.eq i lt1 lt2 prog w _ _ ?_)
    cases q : e i with
    | true =>
      rw [q, if_pos rfl] at hR
      wp_walk
      rw [hc]
      exact ⟨plainId_quiet plain_eq_loop _, codeAny_builtin entry_eq_loop (by
        rw [Around.under_plainId plain_eq_loop _]
        exact ih (i + 1) (by omega) prog w A R _ ⟨ha, hb, c, ah.next q, hR⟩)⟩
    | false =>
      rw [q, if_neg Bool.false_ne_true] at hR
      wp_walk using wpAny_loadPart' ha, wpAny_loadPart' hb
      rw [o1, o2]
      generalize hrc : richCompare CmpOp.Lt = rc
      wp_walk
      subst hrc
      refine c.lt i lt1 lt2 ah q prog w _ _ ?_
      wp_walk
      exact hR
theorem lst_lt1 (a b : Addr) (xs ys : Array Value) (n m : Nat) (dd de : Option Addr) (sl sm : Array (Option Value)) (e r : Nat → Bool) :
    Meets (Builtin.«list.__lt__» ⟨[.ref a, .ref b], []⟩) (fun A R s => s.heap.get? a = some { cls := .type "list", dict := dd, data := .seq xs n, slots := sl } ∧ s.heap.get? b = some { cls := .type "list", dict := de, data := .seq ys m, slots := sm } ∧
        Cmp2 A s xs ys e r ∧ R (.ok (.ret (.bool (ltB xs ys e r 0)))) s) := by
  intro prog w A R s h
  obtain ⟨hp, g, d, tk, os⟩ := s
  obtain ⟨ha, hb, c, hR⟩ := h
  have f3 := AutoSeq1.sub_list_list
  wp_walk using wpAny_loadPart' ha, wpAny_loadPart' hb
  exact ⟨plainId_quiet plain_eq_loop _, codeAny_builtin entry_eq_loop (by
    rw [Around.under_plainId plain_eq_loop _]
    exact lst_loop1 a b xs ys n m dd de sl sm e r _ 0 rfl prog w A R _ ⟨ha, hb, c, fun i hi => absurd hi (Nat.not_lt_zero _), hR⟩)⟩
section
variable {A : Around} {s : Shared} {a b : Addr} {xs ys : Array Value} {e r : Nat → Bool}
theorem rc_tup (ha : s.heap.IsTuple a xs) (hb : s.heap.IsTuple b ys) (hu : A.units < cLine) (c : Cmp2 A s xs ys e r) : RcLt A s (.ref a) (.ref b) (ltB xs ys e r 0) := fun prog w E Q h => by
  obtain ⟨⟨c1, dd, d1, sl⟩, ho, hc, n, hd⟩ := id ha
  obtain ⟨⟨c2, de, d2, sm⟩, ho2, hc2, m, hd2⟩ := id hb
  simp only at hc hd hc2 hd2
  subst hc hd hc2 hd2
  exact richCompare_meets_room (op := .Lt) ⟨_, ho, rfl⟩ ⟨_, ho2, rfl⟩ PySem.F.slot_tuple_lt PySem.F.entry_tuple_lt (PySem.F.args_tuple_lt_2 _ _) (tup_lt1 a b xs ys n m dd de sl sm e r) ⟨ho, ho2, c, show Value.bool _ ≠ Value.notImplemented ∧ Q _ s from ⟨(fun x => nomatch x), h⟩⟩ hu
theorem rc_lst (ha : s.heap.IsList a xs) (hb : s.heap.IsList b ys) (hu : A.units < cLine) (c : Cmp2 A s xs ys e r) : RcLt A s (.ref a) (.ref b) (ltB xs ys e r 0) := fun prog w E Q h => by
  obtain ⟨⟨c1, dd, d1, sl⟩, ho, hc, n, hd⟩ := id ha
  obtain ⟨⟨c2, de, d2, sm⟩, ho2, hc2, m, hd2⟩ := id hb
  simp only at hc hd hc2 hd2
  subst hc hd hc2 hd2
  exact richCompare_meets_room (op := .Lt) ⟨_, ho, rfl⟩ ⟨_, ho2, rfl⟩ PySem.F.slot_list_lt PySem.F.entry_list_lt (PySem.F.args_list_lt_2 _ _) (lst_lt1 a b xs ys n m dd de sl sm e r) ⟨ho, ho2, c, show Value.bool _ ≠ Value.notImplemented ∧ Q _ s from ⟨(fun x => nomatch x), h⟩⟩ hu
theorem call_lst {prog : Program} {w : World} {E : Value → Shared → Prop} {Q : Value → Shared → Prop} (ha : s.heap.IsList a xs) (hb : s.heap.IsList b ys) (c : Cmp2 A s xs ys e r) (h : Q (.bool (ltB xs ys e r 0)) s) : wpAny (model prog w) A (call (.builtin "list.__lt__") [.ref a, .ref b]) Q E s := by
  obtain ⟨⟨c1, dd, d1, sl⟩, ho, hc, n, hd⟩ := id ha
  obtain ⟨⟨c2, de, d2, sm⟩, ho2, hc2, m, hd2⟩ := id hb
  simp only at hc hd hc2 hd2
  subst hc hd hc2 hd2
  exact call_meets PySem.F.slot_list_lt ⟨_, ho, rfl⟩ PySem.F.entry_list_lt (PySem.F.args_list_lt_2 _ _) (lst_lt1 a b xs ys n m dd de sl sm e r) ⟨ho, ho2, c, h⟩
end
/-! data that compare up to their first difference -/
mutual
def kin : PyData → PyData → Bool
  | .bool _, .bool _ => true
  | .int _, .int _ => true
  | .str _, .str _ => true
  | .list xs, .list ys => kinAll xs ys
  | .tuple xs, .tuple ys => kinAll xs ys
  | _, _ => false
def kinAll : List PyData → List PyData → Bool
  | x :: xs, y :: ys => if PyData.eqv x y = true then kinAll xs ys else kin x y
  | [], _ => true
  | _ :: _, [] => true
end
theorem kinAll_cons {x y : PyData} {xs ys : List PyData} : kinAll (x :: xs) (y :: ys) = if PyData.eqv x y = true then kinAll xs ys else kin x y := by rw [kinAll]
mutual
theorem toks_same : ∀ (x y : PyData), PyData.eqv x y = true → keyToks x = keyToks y
  | .none, y, h => by cases y <;> simp_all [PyData.eqv, keyToks]
  | .bool a, y, h => by
    cases y <;> simp [PyData.eqv] at h
    · subst h; rfl
    · simp only [keyToks]; rw [← h]
  | .int a, y, h => by
    cases y <;> simp [PyData.eqv] at h
    · simp only [keyToks]; rw [h]
    · subst h; rfl
  | .str a, y, h => by
    cases y <;> simp [PyData.eqv] at h
    subst h; rfl
  | .list xs, y, h => by
    cases y <;> simp [PyData.eqv] at h
    simp only [keyToks]
    exact toksAll_same xs _ h
  | .tuple xs, y, h => by
    cases y <;> simp [PyData.eqv] at h
    simp only [keyToks]
    exact toksAll_same xs _ h
  | .dict a, y, h => by cases y <;> simp_all [PyData.eqv, keyToks]
theorem toksAll_same : ∀ (xs ys : List PyData), PyData.eqvAll xs ys = true → keyToksAll xs = keyToksAll ys
  | [], [], _ => rfl
  | [], _ :: _, h => by simp [PyData.eqvAll] at h
  | _ :: _, [], h => by simp [PyData.eqvAll] at h
  | x :: xs, y :: ys, h => by
    rw [eqv_all_cons, Bool.and_eq_true] at h
    rw [toks_all_cons, toks_all_cons, toks_same x y h.1, toksAll_same xs ys h.2]
end
mutual
theorem kin_toks : ∀ (x y : PyData), kin x y = true → PyData.eqv x y = false → ∀ l m, PyProof.Rows.lexLt itemOrd (keyToks x ++ l) (keyToks y ++ m) = PyProof.Rows.lexLt itemOrd (keyToks x) (keyToks y)
  | .none, y, h, _ => by simp [kin] at h
  | .bool a, y, h, e => by
    cases y <;> simp [kin] at h
    intro l m
    rename_i b
    have hne : a ≠ b := fun q => by subst q; simp [PyData.eqv] at e
    simp only [keyToks, List.cons_append, List.nil_append]
    refine lex_atom (fun q => hne ?_) l m
    have q' := Sum.inl.inj q
    cases a <;> cases b <;> simp_all
  | .int a, y, h, e => by
    cases y <;> simp [kin] at h
    intro l m
    rename_i b
    have hne : a ≠ b := fun q => by subst q; simp [PyData.eqv] at e
    simp only [keyToks, List.cons_append, List.nil_append]
    exact lex_atom (fun q => hne (Sum.inl.inj q)) l m
  | .str a, y, h, e => by
    cases y <;> simp [kin] at h
    intro l m
    rename_i b
    have hne : a ≠ b := fun q => by subst q; simp [PyData.eqv] at e
    simp only [keyToks, List.cons_append, List.nil_append]
    exact lex_atom (fun q => hne (str_of_cps (Sum.inr.inj q))) l m
  | .list xs, y, h, e => by
    cases y <;> simp [kin] at h
    simp only [keyToks]
    exact kinAll_toks xs _ h (by simpa [PyData.eqv] using e)
  | .tuple xs, y, h, e => by
    cases y <;> simp [kin] at h
    simp only [keyToks]
    exact kinAll_toks xs _ h (by simpa [PyData.eqv] using e)
  | .dict _, y, h, _ => by simp [kin] at h
theorem kinAll_toks : ∀ (xs ys : List PyData), kinAll xs ys = true → PyData.eqvAll xs ys = false → ∀ l m, PyProof.Rows.lexLt itemOrd (keyToksAll xs ++ l) (keyToksAll ys ++ m) = PyProof.Rows.lexLt itemOrd (keyToksAll xs) (keyToksAll ys)
  | [], [], _, e => by simp [PyData.eqvAll] at e
  | [], y :: ys, _, _ => fun l m => by
    simp only [keyToksAll, List.cons_append, List.nil_append]
    rw [lex_diff (O := itemOrd) (by simp), lex_diff (O := itemOrd) (by simp)]
  | x :: xs, [], _, _ => fun l m => by
    simp only [keyToksAll, List.cons_append, List.nil_append]
    rw [lex_diff (O := itemOrd) (by simp), lex_diff (O := itemOrd) (by simp)]
  | x :: xs, y :: ys, h, e => fun l m => by
    rw [kinAll_cons] at h
    rw [eqv_all_cons] at e
    rw [toks_all_cons, toks_all_cons]
    simp only [List.cons_append, List.append_assoc]
    rw [lex_self (O := itemOrd), lex_self (O := itemOrd)]
    by_cases hx : PyData.eqv x y = true
    · rw [if_pos hx] at h
      rw [hx, Bool.true_and] at e
      rw [toks_same x y hx, lex_pre, lex_pre]
      exact kinAll_toks xs ys h e l m
    · rw [if_neg hx] at h
      have hx : PyData.eqv x y = false := by simpa using hx
      rw [kin_toks x y h hx, kin_toks x y h hx]
end
theorem kin_lt : ∀ (xs ys : List PyData), kinAll xs ys = true →
    firstLt (pairEq xs ys) (fun j => dataLt (xs.getD j .none) (ys.getD j .none)) (decide (xs.length < ys.length)) (List.range (min xs.length ys.length)) = PyProof.Rows.lexLt itemOrd (keyToksAll xs) (keyToksAll ys)
  | [], [], _ => by simp [firstLt, keyToksAll, lex_irrefl]
  | [], y :: ys, _ => by
    rw [toks_all_cons]
    simp only [keyToksAll]
    rw [lex_diff (O := itemOrd) (by simp)]
    simp [firstLt, itemLt]
  | x :: xs, [], _ => by
    rw [toks_all_cons]
    simp only [keyToksAll]
    rw [lex_diff (O := itemOrd) (by simp)]
    simp [firstLt, itemLt]
  | x :: xs, y :: ys, h => by
    rw [kinAll_cons] at h
    have m1 : min (x :: xs).length (y :: ys).length = min xs.length ys.length + 1 := by simp only [List.length_cons]; omega
    have d1 : decide ((x :: xs).length < (y :: ys).length) = decide (xs.length < ys.length) := decide_eq_decide.mpr (by simp only [List.length_cons]; omega)
    rw [m1, d1, List.range_succ_eq_map, toks_all_cons, toks_all_cons, lex_self (O := itemOrd)]
    by_cases hx : PyData.eqv x y = true
    · rw [if_pos hx] at h
      rw [firstLt_yes (show pairEq (x :: xs) (y :: ys) 0 = true from hx), firstLt_map, toks_same x y hx, lex_pre, ← kin_lt xs ys h]
      rfl
    · rw [if_neg hx] at h
      have hx : PyData.eqv x y = false := by simpa using hx
      rw [firstLt_no (show pairEq (x :: xs) (y :: ys) 0 = false from hx), kin_toks x y h hx]
      rfl
mutual
theorem rc_kin : ∀ (da db : PyData) (A : Around) (s : Shared) (a b : Value) (as bs : List Addr), Reads s.heap a da as → Reads s.heap b db bs → da.canLay0 = true → db.canLay0 = true → kin da db = true → A.units + min da.depth db.depth < cLine → RcLt A s a b (dataLt da db)
  | .none, _, _, _, _, _, _, _, _, _, _, _, h, _ => by simp [kin] at h
  | .bool x, db, A, s, a, b, as, bs, ra, rb, _, _, h, _ => by
    cases db <;> simp [kin] at h
    cases ra
    cases rb
    intro prog w E Q hq
    rw [dataLt_bool] at hq
    exact lt_bool hq
  | .int x, db, A, s, a, b, as, bs, ra, rb, _, _, h, _ => by
    cases db <;> simp [kin] at h
    cases ra
    cases rb
    intro prog w E Q hq
    rw [dataLt_int] at hq
    exact P.lt_int hq
  | .str x, db, A, s, a, b, as, bs, ra, rb, _, _, h, _ => by
    cases db <;> simp [kin] at h
    cases ra
    cases rb
    intro prog w E Q hq
    rw [dataLt_str] at hq
    exact P.lt_str hq
  | .list xs, db, A, s, a, b, as, bs, ra, rb, ca, cb, h, hu => by
    cases db <;> simp [kin] at h
    rename_i ys
    cases ra with
    | @list l o vs n _ as1 h1 h2 h3 h4 =>
      cases rb with
      | @list l' o' ws n' _ bs1 k1 k2 k3 k4 =>
        have n1 : vs.size = xs.length := by simpa using ReadsAll.length _ _ _ h4
        have n2 : ws.size = ys.length := by simpa using ReadsAll.length _ _ _ k4
        have c := cmp_kin xs ys A.in1 s vs.toList ws.toList _ _ h4 k4 (by simpa only [PyData.canLay0] using ca) (by simpa only [PyData.canLay0] using cb) h (room_in hu)
        have e : dataLt (.list xs) (.list ys) = ltB vs ws (pairEq xs ys) (fun j => dataLt (xs.getD j .none) (ys.getD j .none)) 0 := by
          rw [dataLt_list, ← kin_lt xs ys h, ← n1, ← n2]; rfl
        rw [e]
        exact rc_lst ⟨_, h1, h2, _, h3⟩ ⟨_, k1, k2, _, k3⟩ (room_here hu) ⟨fun j j1 j2 => by
          have q := c.1 j (by rw [Array.length_toList]; exact j1) (by rw [Array.length_toList]; exact j2)
          rw [Array.getElem_toList, Array.getElem_toList] at q
          exact q, fun j j1 j2 ah hj => by
          have q := c.2 j (by rw [Array.length_toList]; exact j1) (by rw [Array.length_toList]; exact j2) ah hj
          rw [Array.getElem_toList, Array.getElem_toList] at q
          exact q⟩
  | .tuple xs, db, A, s, a, b, as, bs, ra, rb, ca, cb, h, hu => by
    cases db <;> simp [kin] at h
    rename_i ys
    cases ra with
    | @tuple l o vs n _ as1 h1 h2 h3 h4 =>
      cases rb with
      | @tuple l' o' ws n' _ bs1 k1 k2 k3 k4 =>
        have n1 : vs.size = xs.length := by simpa using ReadsAll.length _ _ _ h4
        have n2 : ws.size = ys.length := by simpa using ReadsAll.length _ _ _ k4
        have c := cmp_kin xs ys A.in1 s vs.toList ws.toList _ _ h4 k4 (by simpa only [PyData.canLay0] using ca) (by simpa only [PyData.canLay0] using cb) h (room_in hu)
        have e : dataLt (.tuple xs) (.tuple ys) = ltB vs ws (pairEq xs ys) (fun j => dataLt (xs.getD j .none) (ys.getD j .none)) 0 := by
          rw [dataLt_tuple, ← kin_lt xs ys h, ← n1, ← n2]; rfl
        rw [e]
        exact rc_tup ⟨_, h1, h2, _, h3⟩ ⟨_, k1, k2, _, k3⟩ (room_here hu) ⟨fun j j1 j2 => by
          have q := c.1 j (by rw [Array.length_toList]; exact j1) (by rw [Array.length_toList]; exact j2)
          rw [Array.getElem_toList, Array.getElem_toList] at q
          exact q, fun j j1 j2 ah hj => by
          have q := c.2 j (by rw [Array.length_toList]; exact j1) (by rw [Array.length_toList]; exact j2) ah hj
          rw [Array.getElem_toList, Array.getElem_toList] at q
          exact q⟩
  | .dict _, _, _, _, _, _, _, _, _, _, _, _, h, _ => by simp [kin] at h
theorem cmp_kin : ∀ (xs ys : List PyData) (A : Around) (s : Shared) (vs ws : List Value) (as bs : List Addr), ReadsAll s.heap vs xs as → ReadsAll s.heap ws ys bs → PyData.canLayAll0 xs = true → PyData.canLayAll0 ys = true → kinAll xs ys = true →
    A.units + min (PyData.depthAll xs) (PyData.depthAll ys) < cLine → (∀ j (h1 : j < vs.length) (h2 : j < ws.length), EqAt A s vs[j] ws[j] (pairEq xs ys j)) ∧ ∀ j (h1 : j < vs.length) (h2 : j < ws.length), Ahead (pairEq xs ys) j → pairEq xs ys j = false → RcLt A s vs[j] ws[j] (dataLt (xs.getD j .none) (ys.getD j .none))
  | [], _, _, _, _, _, _, _, ra, _, _, _, _, _ => by cases ra; exact ⟨fun j h1 => absurd h1 (Nat.not_lt_zero _), fun j h1 => absurd h1 (Nat.not_lt_zero _)⟩
  | _ :: _, [], _, _, _, _, _, _, _, rb, _, _, _, _ => by cases rb; exact ⟨fun j _ h2 => absurd h2 (Nat.not_lt_zero _), fun j _ h2 => absurd h2 (Nat.not_lt_zero _)⟩
  | x :: xs, y :: ys, A, s, vs, ws, as, bs, ra, rb, ca, cb, h, hu => by
    refine ⟨eqAt_readsAll (x :: xs) (y :: ys) A s vs ws as bs ra rb ca cb hu, ?_⟩
    rw [kinAll_cons] at h
    simp only [PyData.canLayAll0, Bool.and_eq_true] at ca cb
    cases ra with
    | cons r rs =>
      cases rb with
      | cons r' rs' =>
        intro j h1 h2 ah hj
        cases j with
        | zero =>
          have hx : PyData.eqv x y = false := hj
          rw [if_neg (by rw [hx]; exact Bool.false_ne_true)] at h
          exact rc_kin x y A s _ _ _ _ r r' ca.1 cb.1 h (room_head hu)
        | succ j =>
          have hx : PyData.eqv x y = true := ah 0 (Nat.succ_pos j)
          rw [if_pos hx] at h
          exact (cmp_kin xs ys A s _ _ _ _ rs rs' ca.2 cb.2 h (room_tail hu)).2 j (Nat.lt_of_succ_lt_succ h1) (Nat.lt_of_succ_lt_succ h2) (fun i hi => ah (i + 1) (by omega)) hj
end
end ZL
end

section
set_option autoImplicit false
/-! Y3: lists of data as keys. -/
namespace ZL
open PySem PySem.W PySem.SeqAt PyProof.Rows
mutual
theorem reads_one {h : Heap} : ∀ (d d' : PyData) (v : Value) (as as' : List Addr), d.canLay0 = true → Reads h v d as → Reads h v d' as' → d = d'
  | .none, _, _, _, _, _, r, r' => by cases r; cases r'; rfl
  | .bool _, _, _, _, _, _, r, r' => by cases r; cases r'; rfl
  | .int _, _, _, _, _, _, r, r' => by cases r; cases r'; rfl
  | .str _, _, _, _, _, _, r, r' => by cases r; cases r'; rfl
  | .list xs, d', _, _, _, c, r, r' => by
    cases r with
    | list h1 h2 h3 h4 =>
      cases r' with
      | list k1 k2 k3 k4 =>
        rw [h1] at k1; cases k1
        rw [h3] at k3; cases k3
        rw [readsAll_one xs _ _ _ _ (by simpa only [PyData.canLay0] using c) h4 k4]
      | tuple k1 k2 k3 k4 => rw [h1] at k1; cases k1; exact absurd (h2.symm.trans k2) (by simp)
      | dict k1 k2 k3 k4 k5 => rw [h1] at k1; cases k1; exact absurd (h2.symm.trans k2) (by simp)
  | .tuple xs, d', _, _, _, c, r, r' => by
    cases r with
    | tuple h1 h2 h3 h4 =>
      cases r' with
      | tuple k1 k2 k3 k4 =>
        rw [h1] at k1; cases k1
        rw [h3] at k3; cases k3
        rw [readsAll_one xs _ _ _ _ (by simpa only [PyData.canLay0] using c) h4 k4]
      | list k1 k2 k3 k4 => rw [h1] at k1; cases k1; exact absurd (h2.symm.trans k2) (by simp)
      | dict k1 k2 k3 k4 k5 => rw [h1] at k1; cases k1; exact absurd (h2.symm.trans k2) (by simp)
  | .dict _, _, _, _, _, c, _, _ => nomatch c
theorem readsAll_one {h : Heap} : ∀ (xs ys : List PyData) (vs : List Value) (as as' : List Addr), PyData.canLayAll0 xs = true → ReadsAll h vs xs as → ReadsAll h vs ys as' → xs = ys
  | [], ys, _, _, _, _, r, r' => by cases r; cases r'; rfl
  | x :: xs, ys, _, _, _, c, r, r' => by
    simp only [PyData.canLayAll0, Bool.and_eq_true] at c
    cases r with
    | cons a b =>
      cases r' with
      | cons a' b' => rw [reads_one x _ _ _ _ c.1 a a', readsAll_one xs _ _ _ _ c.2 b b']
end
theorem kind_some {h : Heap} {ds : List PyData} (hal : ∀ d, d ∈ ds → d.canLay0 = true) {v : Value} {d : PyData} {as : List Addr} (hd : d ∈ ds) (r : Reads h v d as) : (dataKind h ds).keyOf v = some (keyToks d) := by
  have q : ∃ d, d ∈ ds ∧ ∃ as, Reads h v d as := ⟨d, hd, as, r⟩
  have e : (dataKind h ds).keyOf v = some (keyToks q.choose) := dif_pos q
  obtain ⟨h1, as', h2⟩ := q.choose_spec
  rw [e, reads_one _ _ _ _ _ (hal _ h1) h2 r]
section
variable {prog : Program} {w : World} {A : Around} {E : Value → Shared → Prop} {s : Shared}
theorem one_kin {f : Bool} {xs ys : List PyData} {a b : Value} {as bs : List Addr} {Q : Bool → Shared → Prop} (ra : Reads s.heap a (.list xs) as) (rb : Reads s.heap b (.list ys) bs) (ca : (PyData.list xs).canLay0 = true) (cb : (PyData.list ys).canLay0 = true) (h : kin (.list xs) (.list ys) = true)
    (hu : A.units + min (PyData.list xs).depth (PyData.list ys).depth < cLine) (hq : Q (dataLt (.list xs) (.list ys)) s) : wpAny (model prog w) A (oneLt' f a b) Q E s := by
  rw [oneLt'_eq]
  cases f with
  | false =>
    simp only [Bool.false_eq_true, if_false]
    exact wpAny_bind (rc_kin _ _ A s a b as bs ra rb ca cb h hu prog w E _ (wpAny_truthy_bool hq))
  | true =>
    have hk : kinAll xs ys = true := by simpa [kin] using h
    cases ra with
    | @list l o vs n _ as1 h1 h2 h3 h4 =>
      cases rb with
      | @list l' o' ws n' _ bs1 k1 k2 k3 k4 =>
        have n1 : vs.size = xs.length := by simpa using ReadsAll.length _ _ _ h4
        have n2 : ws.size = ys.length := by simpa using ReadsAll.length _ _ _ k4
        have c := cmp_kin xs ys A.in1 s vs.toList ws.toList _ _ h4 k4 (by simpa only [PyData.canLay0] using ca) (by simpa only [PyData.canLay0] using cb) hk (room_in hu)
        have e : dataLt (.list xs) (.list ys) = ltB vs ws (pairEq xs ys) (fun j => dataLt (xs.getD j .none) (ys.getD j .none)) 0 := by
          rw [dataLt_list, ← kin_lt xs ys hk, ← n1, ← n2]; rfl
        rw [e] at hq
        simp only [if_true]
        refine wpAny_bind (wpAny_cRoomFor (room_here hu) ?_)
        refine wpAny_bind (wpAny_callSpecialIfBound?_slot (T := "list") ⟨_, h1, h2⟩ PySem.F.slot_list_lt (call_lst ⟨_, h1, h2, _, h3⟩ ⟨_, k1, k2, _, k3⟩ ⟨fun j j1 j2 => ?_, fun j j1 j2 ah hj => ?_⟩ (wpAny_truthy_bool hq)))
        · have q := c.1 j (by rw [Array.length_toList]; exact j1) (by rw [Array.length_toList]; exact j2)
          rw [Array.getElem_toList, Array.getElem_toList] at q
          exact q
        · have q := c.2 j (by rw [Array.length_toList]; exact j1) (by rw [Array.length_toList]; exact j2) ah hj
          rw [Array.getElem_toList, Array.getElem_toList] at q
          exact q
/-- keys that are lists, every two of them comparable -/
structure KinL (ds : List PyData) : Prop where
  lst : ∀ d, d ∈ ds → ∃ xs, d = .list xs
  lay : ∀ d, d ∈ ds → d.canLay0 = true
  kin : ∀ d, d ∈ ds → ∀ d', d' ∈ ds → kin d d' = true
theorem sorts_kin0 {vs : List Value} {ds : List PyData} (e : EachIs (fun v d => ∃ as, Reads s.heap v d as) vs ds) (k : KinL ds) (hu : ∀ d, d ∈ ds → A.units + d.depth < cLine) : SortsAt prog w A s (dataKind s.heap ds) vs := by
  refine ⟨fun v hv => ?_, oneType', ?_, fun h2 E Q hq => ?_⟩
  · obtain ⟨d, hd, as, r⟩ := e.left v hv
    exact ⟨_, kind_some k.lay hd r⟩
  · intro E x y a b Q ha hb hq
    obtain ⟨d, as, hd, ra, rfl⟩ := dataKind_inv ha
    obtain ⟨d', as', hd', rb, rfl⟩ := dataKind_inv hb
    obtain ⟨xs, e1⟩ := k.lst d hd
    obtain ⟨ys, e2⟩ := k.lst d' hd'
    have room : A.units + min d.depth d'.depth < cLine := Nat.lt_of_le_of_lt (Nat.add_le_add_left (Nat.min_le_left _ _) _) (hu d hd)
    have c1 := k.lay d hd
    have c2 := k.lay d' hd'
    have c3 := k.kin d hd d' hd'
    subst e1 e2
    rw [keyLt'_oneType]
    exact one_kin ra rb c1 c2 c3 room hq
  · refine kas_kind (T := Value.type "list") h2 (fun v hv => ?_) (by decide) (beq_self_eq_true _) hq
    obtain ⟨d, hd, as, r⟩ := e.left v hv
    obtain ⟨xs, e1⟩ := k.lst d hd
    subst e1
    exact looks_reads r
/-- keys that can be sorted: lists that compare, or tuples of one shape -/
structure KinK (ds : List PyData) : Prop where
  lay : ∀ d, d ∈ ds → d.canLay0 = true
  srt : KinL ds ∨ (AllAlike ds ∧ Sortable ds)
theorem KinL.k {ds : List PyData} (h : KinL ds) : KinK ds := ⟨h.lay, .inl h⟩
theorem sorts_kin {vs : List Value} {ds : List PyData} (e : EachIs (fun v d => ∃ as, Reads s.heap v d as) vs ds) (k : KinK ds) (hu : ∀ d, d ∈ ds → A.units + d.depth < cLine) : SortsAt prog w A s (dataKind s.heap ds) vs :=
  k.srt.elim (fun h => sorts_kin0 e h hu) fun h => SortsAt.data e h.1 h.2 hu
end
end ZL
end

section
set_option autoImplicit false
/-! Y4: sorted(xs, key=f) in the tracked frame. -/
namespace ZL
open PySem PySem.Spec L2 PyProof.Rows PySem.W PySem.SeqAt
/-- a call f(w), whatever is pinned -/
def KProm (X : Cx) (A : Around) (f : Value) (KP : V → Hp → VK → Prop) : Prop :=
  ∀ (pins : List (Addr × Obj)) (s : Shared) (σ : L2.St) (H : Hp) (w : V) (u : Value) (Q : VK), Inv X pins σ H s → RelV w u → KP w H Q → wpAny (model X.prog X.w) A (call f [u]) (EP X pins σ Q) (fun _ _ => False) s
/-- the items by their keys -/
def byKeys (ws : List V) (ds : List PyData) : List V := ((ws.zip ds).mergeSort (dataLe false fun p => p.2)).map (·.1)
structure KeysOk (K : PySem.W.Frag) (H : Hp) (ks : List V) (ds : List PyData) : Prop where
  dp : DpAll K H ks ds
  kin : KinK ds
  dep : ∀ d, d ∈ ds → d.depth ≤ 60
theorem each_vals {ws : List V} {us : List Value} (h : Vals ws us) : ∀ {ds : List PyData}, ds.length = ws.length → EachIs (fun (u : Value) (p : V × PyData) => RelV p.1 u) us (ws.zip ds) := by
  induction h with
  | nil => intro ds hl; exact .nil
  | cons r t ih =>
    intro ds hl
    cases ds with
    | nil => simp at hl
    | cons d ds => exact .cons r (ih (by simpa using hl))
theorem vals_each {us : List Value} {bs : List (V × PyData)} (h : EachIs (fun (u : Value) (p : V × PyData) => RelV p.1 u) us bs) : Vals (bs.map (·.1)) us := by
  induction h with
  | nil => exact .nil
  | cons r t ih => exact .cons r ih
theorem each_keys2 {h : Heap} : ∀ {us : List Value} {ds es : List PyData} {ws : List V}, (∀ d, d ∈ es → d.canLay0 = true) → (∀ d, d ∈ ds → d ∈ es) → ds.length = ws.length → EachIs (fun v d => ∃ as, Reads h v d as) us ds → EachIs (fun v (p : V × PyData) => (dataKind h es).keyOf v = some (keyToks p.2)) us (ws.zip ds) := by
  intro us ds es ws hal hin hl e
  induction e generalizing ws with
  | nil => cases ws <;> exact .nil
  | @cons v d us ds r t ih =>
    cases ws with
    | nil => simp at hl
    | cons w ws =>
      obtain ⟨as, r⟩ := r
      exact .cons (kind_some hal (hin d (List.mem_cons_self ..)) r) (ih (fun d hd => hin d (List.mem_cons_of_mem _ hd)) (by simpa using hl))
theorem each_reads {X : Cx} {pins : List (Addr × Obj)} {σ : L2.St} {H : Hp} {s : Shared} (I : Inv X pins σ H s) : ∀ {ks : List V} {us : List Value} {ds : List PyData}, Vals ks us → DpAll X.K H ks ds → EachIs (fun v d => ∃ as, Reads s.heap v d as) us ds := by
  intro ks us ds h
  induction h generalizing ds with
  | nil => intro e; cases e; exact .nil
  | cons r t ih =>
    intro e
    cases e with
    | cons a b => exact .cons (Dp.reads I _ _ _ a r) (ih b)
theorem dpAll_len {K : PySem.W.Frag} {H : Hp} {ks : List V} {ds : List PyData} (h : DpAll K H ks ds) : ks.length = ds.length := by
  induction ks generalizing ds with
  | nil => cases h; rfl
  | cons k ks ih =>
    cases h with
    | cons a b => simp only [List.length_cons, ih b]
section
variable {X : Cx} {pins : List (Addr × Obj)} {σ : L2.St} {A : Around} {f : Value} {KP : V → Hp → VK → Prop} {ws : List V} {vs : List Value} {a kS : Addr} {e1 : Nat} {Q : VK}
/-- what the keys reach: a list of them, then the sorted list -/
structure KWalk (K : PySem.W.Frag) (KP : V → Hp → VK → Prop) (ws : List V) (W : Nat → List V → Hp → Prop) (Q : VK) : Prop where
  step : ∀ i ks H w, ws[i]? = some w → W i ks H → KP w H fun k H' => W (i + 1) (ks ++ [k]) H'
  fin : ∀ ks H, W ws.length ks H → ∃ ds, KeysOk K H ks ds ∧ ds.length = ws.length ∧ ∀ p, H p = none → Q (.ref p) (upd H p (.lst (byKeys ws ds)))
theorem fp_move {H H' : Hp} {b : Addr} (f : FpOk X pins H b) (h : H' b = none) : FpOk X pins H' b := ⟨h, f.2⟩
theorem rest_run {H0 : Hp} {s0 : Shared} {W : Nat → List V → Hp → Prop} {E : Value → Shared → Prop} (hk : KProm X A f KP) (hu : A.units + 65 < cLine) (I0 : Inv X pins σ H0 s0) (fa : FpOk X pins H0 a) (fk : FpOk X pins H0 kS) (hka : kS ≠ a) (na : s0.heap.get? a = some (seqObj "list" #[] e1)) (nk : s0.heap.get? kS = some (seqObj "list" #[] 0))
    (rv : Vals ws vs) (hZ : vs.length ≤ sizeLine) (kw : KWalk X.K KP ws W Q) (w0 : W 0 [] H0) :
    wpAny (model X.prog X.w) A (ksk_rest a f false vs.toArray e1 (.ref kS)) (fun r s' => r = .done (.ret .none) ∧ EP X pins σ Q (.ref a) s') E s0 := by
  have lw : vs.length = ws.length := rv.length.symm
  unfold ksk_rest
  refine wpAny_bind (wpAny_rule ?_)
  first
    | rw [List.forIn_toArray]
    | rw [← Array.forIn_toList]
  refine wpAny_bind (ksk_fold (fun i s' => ∃ H' ks kA e, Inv X pins σ H' s' ∧ H' a = none ∧ H' kS = none ∧ s'.heap.get? kS = some (seqObj "list" kA e) ∧ s'.heap.get? a = some (seqObj "list" #[] e1) ∧ Vals ks kA.toList ∧ ks.length = i ∧ W i ks H') vs 0 s0 ⟨H0, [], #[], 0, I0, fa.1, fk.1, nk, na, .nil, rfl, w0⟩ ?step ?done)
  case step =>
    rintro j u s' hx ⟨H', ks, kA, e, I, na', nk', gk, ga, rk, lk, w⟩
    rw [Nat.zero_add] at lk w ⊢
    obtain ⟨v, hv, rvu⟩ : ∃ v, ws[j]? = some v ∧ RelV v u := by
      have key : ∀ {l : List V} {m : List Value}, Vals l m → ∀ {j : Nat} {u : Value}, m[j]? = some u → ∃ v, l[j]? = some v ∧ RelV v u := by
        intro l m h
        induction h with
        | nil => intro j u e; simp at e
        | cons r t ih =>
          intro j u e
          cases j with
          | zero => simp at e; subst e; exact ⟨_, rfl, r⟩
          | succ j => simpa using ih (by simpa using e)
      exact key rv hx
    have hz : kA.size ≤ vs.length := by
      have h1 : ks.length = kA.size := rk.length.trans Array.length_toList
      have := (List.getElem?_eq_some_iff.mp hx).1
      omega
    have Ip : Inv X (pins ++ [(a, seqObj "list" #[] e1), (kS, seqObj "list" kA e)]) σ H' s' := I.pins_of fun p hp => (List.mem_append.mp hp).elim (fun z => I.pin p (List.mem_append_right _ z)) fun z => by
      simp only [List.mem_cons, List.not_mem_nil, or_false] at z
      rcases z with rfl | rfl
      · exact ⟨ga, na', fa.2.1, fa.2.2.1, fun v z => nomatch z⟩
      · exact ⟨gk, nk', fk.2.1, fk.2.2.1, fun v z => nomatch z⟩
    refine wpAny_bind (wpAny_attempt (wpAny_mono (hk _ s' σ H' v u _ Ip rvu (kw.step j ks H' v hv w)) (fun z s2 ⟨k, H2, I2, r2, w2⟩ => ?_) fun _ _ hF => hF.elim))
    have pa := I2.pin (a, seqObj "list" #[] e1) (List.mem_append_right _ (List.mem_append_right _ (by simp)))
    have pk := I2.pin (kS, seqObj "list" kA e) (List.mem_append_right _ (List.mem_append_right _ (by simp)))
    have s1 := Heap.SameBut.update s2.heap kS (Obj.mapSeq (·.push z))
    obtain ⟨c2, hc2⟩ : ∃ c2, (s2.heap.update kS (Obj.mapSeq (·.push z))).get? kS = some (seqObj "list" (kA.push z) c2) := ⟨_, get?_update_seq pk.1 (·.push z)⟩
    refine wpAny_bind (listUpdate_at pk.1 rfl ?_ (Nat.le_trans hz hZ) (by rw [Array.size_push]; omega))
    have I3 : Inv X pins σ H2 { s2 with heap := s2.heap.update kS (Obj.mapSeq (·.push z)) } := I2.unpinned.turned (t' := s2.toks) (fun b o hb e => (s1.2 b hb).trans e) pk.2.1 fk.2.1 fk.2.2.2.1 fk.2.2.2.2.1 fk.2.2.2.2.2
    refine wpAny_pure ⟨rfl, H2, ks ++ [k], kA.push z, c2, I3, pa.2.1, pk.2.1, hc2, (s1.2 a hka.symm).trans pa.1, ?_, by rw [List.length_append, lk]; rfl, w2⟩
    rw [Array.toList_push]
    exact rk.append (.cons r2 .nil)
  case done =>
    rintro s' ⟨H', ks, kA, e, I, na', nk', gk, ga, rk, lk, w⟩
    rw [Nat.zero_add, lw] at lk w
    obtain ⟨ds, ok, ld, q⟩ := kw.fin ks H' w
    have er := each_reads I rk ok.dp
    have hsz : kA.size = vs.length := by
      have h1 : ks.length = kA.size := rk.length.trans Array.length_toList
      omega
    refine wpAny_bind (listItems_at gk rfl ?_)
    obtain ⟨G, g1, g2⟩ := restrict s'.heap fun b => decide (b ≠ kS)
    have gG : ∀ b o, b ≠ kS → s'.heap.get? b = some o → G.get? b = some o := fun b o hb z => by
      rw [g1 b (decide_eq_true hb)]
      exact z
    have kp : KeepsBut a G s'.heap := fun b o hb z => by
      by_cases hk : b = kS
      · rw [hk, g2 kS (decide_eq_false fun z => z rfl)] at z; cases z
      · rw [← g1 b (decide_eq_true hk)]; exact z
    refine keyH_end (κ := dataKind s'.heap ds) (h₁ := G) kp (g2 kS (decide_eq_false fun z => z rfl)) gk ga hka (sorts_kin er ok.kin fun d hd => by have := ok.dep d hd; omega) hsz hZ fun h3 tk3 c k3 n3 => ⟨rfl, ?_⟩
    have fa' : FpOk X pins H' a := fp_move fa na'
    have fk' : FpOk X pins H' kS := fp_move fk nk'
    have I3 : Inv X pins σ H' { s' with heap := h3, toks := tk3 } := I.turnedL (t' := tk3) (ch := [a, kS]) (fun b o hb z => by
      simp only [List.mem_cons, List.not_mem_nil, or_false, not_or] at hb
      exact k3 b o hb.1 (gG b o hb.2 z)) fun b hb => by
      simp only [List.mem_cons, List.not_mem_nil, or_false] at hb
      rcases hb with rfl | rfl
      · exact fa'
      · exact fk'
    have out := sortVals_each (κ := dataKind s'.heap ds) (rev := false) (fun p : V × PyData => keyToks p.2) (each_vals rv ld) (each_keys2 (ws := ws) ok.kin.lay (fun d hd => hd) ld er)
    have vo : Vals (byKeys ws ds) (sortVals (dataKind s'.heap ds) false kA.toList vs) := vals_each out
    have I4 := I3.take (h' := h3) (t' := tk3) (it := a) (o := .lst (byKeys ws ds)) (fun b ob _ z => z) fa' ⟨by
      rw [vo.length, sortVals_length false (by rw [Array.length_toList]; exact hsz)]
      exact hZ, _, c, vo, n3⟩
    exact ⟨.ref a, _, I4, rfl, q a na'⟩

/-- sorted(xs, key=f) -/
theorem sorted_run {pins : List (Addr × Obj)} {s : Shared} {H : Hp} {l fq : Addr} {W : Nat → List V → Hp → Prop} (hk : KProm X X.A.in1.in1 (.ref fq) KP) (hu : X.A.units + 67 < cLine) (I : Inv X pins σ H s) (hl : SqL X.K H l ws) (kw : KWalk X.K KP ws W Q) (w0 : W 0 [] H) :
    wpAny (model X.prog X.w) X.A (call (.builtin "sorted") [.ref l] [(Str.ofString "key", .ref fq)]) (EP X pins σ Q) X.xe s := by
  obtain ⟨its, rv, pl, hz⟩ := I.list hl
  have lz : its.length ≤ sizeLine := by rw [← rv.length]; exact hz
  refine sorted_of_sort (vs := its) pl.isList lz (ksk_s1 _ _) (fun x => ksk_l1 _ _) fun E' => ?_
  rw [ksk_t1]
  have ho := copyHeap_at s.heap its
  have ex : ∀ b o, s.heap.get? b = some o → (sortingHeap (copyHeap s.heap its) (s.heap.objs.size + 1) its).get? b = some o := fun b o e => sorting_copy_old e
  generalize hc : copyHeap s.heap its = h1 at ho ex ⊢
  have z1 : h1.objs.size = s.heap.objs.size + 2 := by
    rw [← hc]
    unfold copyHeap
    rw [size_push', Heap.size_update, size_push']
  have ha : s.heap.objs.size + 1 < h1.objs.size := by omega
  obtain ⟨e1, ho1⟩ : ∃ e1, (h1.update (s.heap.objs.size + 1) (Obj.mapSeq fun _ => (#[] : Array Value))).get? (s.heap.objs.size + 1) = some (seqObj "list" #[] e1) := ⟨_, get?_update_seq ho fun _ => #[]⟩
  have hkS : ((h1.update (s.heap.objs.size + 1) (Obj.mapSeq fun _ => (#[] : Array Value))).push (seqObj "tuple" its.toArray 0)).objs.size = h1.objs.size + 1 := by rw [size_push', Heap.size_update]
  unfold ksk_tree
  refine wpAny_bind (listItems_at ho rfl ?_)
  refine wpAny_bind (listUpdate_at ho rfl ?_ (by rw [List.size_toArray]; exact lz) (Nat.zero_le _))
  refine wpAny_bind (seqEpoch_at ho1 rfl ?_)
  refine wpAny_bind (wpAny_newTuple ?_ (by show its.length ≤ _; exact lz))
  refine wpAny_bind (wpAny_newList ?_ (Nat.zero_le _))
  refine wpAny_holding ?_
  have I1 : Inv X pins σ H { s with heap := sortingHeap h1 (s.heap.objs.size + 1) its } := I.turnedL (t' := s.toks) (ch := []) (fun b o _ e => ex b o e) fun b hb => absurd hb (by simp)
  have fa : FpOk X pins H (s.heap.objs.size + 1) := I.fpOk (by omega) (I.hok.fresh (by omega))
  have fk : FpOk X pins H (h1.objs.size + 1) := I.fpOk (by omega) (I.hok.fresh (by omega))
  have hne : h1.objs.size + 1 ≠ s.heap.objs.size + 1 := by omega
  rw [← hkS] at fk hne
  exact rest_run hk (by show X.A.units + 1 + 1 + 65 < cLine; omega) I1 fa fk hne (Heap.get?_push_of_some _ (Heap.get?_push_of_some _ ho1)) (Heap.get?_push_size _ rfl) rv lz kw w0
end
/-- an own def as the key -/
theorem kprom_fn {X : Cx} {k : Nat} {f : Addr} {fd : FuncData} {ps : List Str} {sp : Sp} (F : FnOk X.prog X.w X.K X.mg X.base CX0 k f fd ps sp) (hr : Room (k + 1) X.A) (hb : Binds X.K fd ps []) : KProm X X.A.in1.in1 (.ref f) fun w H Q => ∀ E, sp [w] H Q E := by
  intro pins s σ H w u Q I r h
  have rv : Vals [w] [u] := .cons r .nil
  have hl : ([u] ++ ([] : List Value)).length = ps.length := by rw [List.append_nil, ← rv.length]; exact F.len _ _ _ _ (h E0)
  have room : Room k X.A.in1.in1 := ⟨hr.hd, by have := hr.dp; show X.A.depth + 3 * k + 5 < _; omega, by have := hr.un; show X.A.units + 1 + 1 + 16 * k + 200 < _; omega⟩
  refine wpAny_call (codeAny_mono (F.run X.A.in1.in1 X.stack s H ⟨[u], []⟩ ([u] ++ []) [w] Q E0 room I.env0.in1.in1 (hb s [u] I.kIn hl) (by rw [List.append_nil]; exact rv) (h _)) fun r s' hq => ?_)
  cases r with
  | error e => exact hq.elim
  | ok fl =>
    cases fl with
    | ret u => exact I.after hq
    | next => exact False.elim hq
    | brk => exact False.elim hq
    | cont => exact False.elim hq
end ZL
end

section
/-! Z12: sorted by keys, of sets; comprehensions in use. -/
namespace Z
open PySem PySem.Spec L2 PyProof.Rows ZL
abbrev dLe {α : Type} (kd : α → PyData) : α → α → Bool := PySem.W.dataLe false kd
section
variable {α ι : Type} {g : Gc} {l : Lc} {M : Md} {G : List Slot} {pos p p1 kpos : Pos} {a : Expr} {t u : Ty}
def rSortK (X : Cx) : List V → List V → Hp → VK → Prop := fun vs zs H Q => ∃ (c fq : Addr) (ws : List V) (KP : V → Hp → VK → Prop) (W : Nat → List V → Hp → Prop), vs = [.ref c] ∧ zs = [.ref fq] ∧ KProm X X.A.in1.in1 (.ref fq) KP ∧ SqL X.K H c ws ∧ KWalk X.K KP ws W Q ∧ W 0 [] H
theorem cr_sortK {X : Cx} (hu : X.A.units + 67 < cLine) : CallRK X (.builtin "sorted") [Str.ofString "key"] (rSortK X) := by
  intro pins s σ H vs zs us ws Q I r rz ⟨c, fq, xs, KP, W, e1, e2, hk, hl, kw, w0⟩
  subst e1 e2
  obtain ⟨u, eu, ru⟩ := vals1 r
  obtain ⟨w, ew, rw⟩ := vals1 rz
  subst eu ew
  cases ru
  cases rw
  exact sorted_run hk hu I hl kw w0
theorem boot_sorted' : bootBuiltins ("sorted" : Str) = some (.builtin "sorted") := by decide +kernel
/-- the sorted items, as typed -/
theorem byKeys_tys {S : Hp} {xs : List α} {T : α → Ty} {kd : α → PyData} {ws : List V} (h : Tys S (xs.map T) ws) : Tys S ((xs.mergeSort (dLe kd)).map T) (byKeys ws (xs.map kd)) := by
  have hl : ws.length = xs.length := by rw [← h.len, List.length_map]
  have e1 : ws.zip (xs.map kd) = (ws.zip xs).map fun q => (q.1, kd q.2) := by
    rw [List.zip_map_right]
    rfl
  have e2 : (ws.zip xs).map (·.2) = xs := List.map_snd_zip (by omega)
  have m1 : ((ws.zip xs).mergeSort (dLe fun q => kd q.2)).map (fun q => (q.1, kd q.2)) = (ws.zip (xs.map kd)).mergeSort (dLe fun q => q.2) := by
    rw [e1]
    exact List.map_mergeSort fun a _ b _ => rfl
  have m2 : ((ws.zip xs).mergeSort (dLe fun q => kd q.2)).map (·.2) = xs.mergeSort (dLe kd) := by
    have := List.map_mergeSort (r := dLe fun q : V × α => kd q.2) (s := dLe kd) (f := fun q : V × α => q.2) (l := ws.zip xs) fun a _ b _ => rfl
    rw [this, e2]
  have e3 : byKeys ws (xs.map kd) = ((ws.zip xs).mergeSort (dLe fun q => kd q.2)).map (·.1) := by
    unfold byKeys
    rw [← m1, List.map_map]
    rfl
  rw [e3, ← m2, List.map_map]
  refine Tys.map fun q hq => ?_
  have hq : q ∈ ws.zip xs := (List.mergeSort_perm _ _).mem_iff.mp hq
  obtain ⟨j, hj⟩ := List.mem_iff_getElem?.mp hq
  rw [List.getElem?_zip_eq_some] at hj
  obtain ⟨t, ht, hT⟩ := h.got hj.1
  rw [List.getElem?_map, hj.2] at ht
  cases ht
  exact hT
/-- sorted(xs, key=f), f an own def -/
theorem x_sortF {xs : List α} {T Ky : α → Ty} {kd : α → PyData} {mo : ι → Md → Prop} {as : ι → List Ty} {r : ι → Ty} {f : Str} {j : Nat} (F : Fn g f j (Spc mo as r)) (hj : j + 1 ≤ l.k) (hi : ∀ x ∈ xs, ∃ i, mo i M ∧ (as i) = [T x] ∧ Sub (r i) (Ky x)) (hD : ∀ x ∈ xs, isD (Ky x) (kd x)) (hk : KinK (xs.map kd)) (hd : ∀ x ∈ xs, (kd x).depth ≤ 60)
    (ha : XE g l M G a (tLs (xs.map T))) (hm : g.mg "sorted" = none) (hg : l.sc.names.lookup ("sorted" : Str) = some .globalImplicit := by rfl) (hgf : l.sc.names.lookup f = some .globalImplicit := by rfl) (hdf : (f == ("__debug__" : Str)) = false := by decide)
    (he : ∀ env, backTo pos (starEach [a] env) = (false, eval a env) :: backTo pos (starEach [] env) := by intro _; rfl) (hpl : ∀ env, (backTo pos (starEach [a] env)).any (·.1) = false := by intro _; rfl)
    (hall : ∀ env, (backToKw pos (keywordEach [⟨some "key", .Name f p1, kpos⟩] env)).all (·.1.isSome) = true := by intro _; rfl) (hnone : ∀ env, (backToKw pos (keywordEach [⟨some "key", .Name f p1, kpos⟩] env)).any (·.1.isNone) = false := by intro _; rfl) (hks : ∀ env, (backToKw pos (keywordEach [⟨some "key", .Name f p1, kpos⟩] env)).filterMap (·.1) = [Str.ofString "key"] := by intro _; rfl)
    (hs : ∀ env, starEach [a] env = (false, eval a env) :: starEach [] env := by intro _; rfl) :
    XE g l M G (.Call (.Name "sorted" p) [a] [⟨some "key", .Name f p1, kpos⟩] pos) (tLs ((xs.mergeSort (dLe kd)).map T)) := fun X A => by
  obtain ⟨fa, fd, ps, F1, m, kp, b⟩ := F.ex
  rw [← A.prog, ← A.w, ← A.K, ← A.mg, ← A.base] at F1
  rw [← A.K] at kp b
  have hf : XE g l M G (.Name f p1) (cst (.ref fa)) := x_glob m rfl hgf hdf
  have kpr := kprom_fn F1 (A.room.mono hj) b
  refine conv (pe_callBK (cr_sortK (by have := A.room.un; omega)) (A.gl hg) (by rw [A.mg]; exact hm) boot_sorted' (xa_1 ha hs X A) (pk_cons (hf X A) pk_nil) (by decide) (by decide) (he _) (hpl _) (hall _) (hnone _) (hks _)) fun σ H Q ⟨S, pr, q⟩ => tA.step pr fun vs S1 H1 q1 p1 h1 => tE.step p1 fun z S2 H2 q2 p2 h2 => ?_
  obtain ⟨v, rfl, c, ws, rfl, h3, h4⟩ := h1.one
  cases h2
  have h3 := q2.1.ss _ _ h3
  have h4 := h4.mono q2.1.ss
  have lw : ws.length = xs.length := by rw [← h4.len, List.length_map]
  refine ⟨c, fa, ws, _, fun i ks H' => ∃ S', Post M S2 H2 S' H' ∧ Tys S' ((xs.take i).map Ky) ks, rfl, rfl, kpr, SqL.of (p2.1 _ _ h3), ⟨fun i ks H' w hw ⟨S', q3, tk⟩ E => ?_, fun ks H' ⟨S', q3, tk⟩ => ?_⟩, S2, ⟨Gr.refl p2.1, p2.2.1⟩, .nil⟩
  · obtain ⟨t, ht, hT⟩ := h4.got hw
    obtain ⟨x, hx, hmem, rfl⟩ := map_get ht
    obtain ⟨i2, hmo, has, hsub⟩ := hi x hmem
    refine ⟨M, i2, S', hmo, q3.1.sh, q3.2, by rw [has]; exact .cons ((T x).mono q3.1.ss hT) .nil, fun v S3 H3 q4 hv => ⟨S3, q3.trans q4, ?_⟩⟩
    rw [take_succ_get hx, List.map_append]
    exact (tk.mono q4.1.ss).snoc (hsub _ _ hv)
  · rw [lw, List.take_length] at tk
    refine ⟨xs.map kd, ⟨isDs_all q3.1.sh (isDs_mapM hD) tk, hk, fun d hd' => ?_⟩, by rw [List.length_map, lw], fun p hp => ?_⟩
    · obtain ⟨x, hx, rfl⟩ := List.mem_map.mp hd'
      exact hd x hx
    · have gr := Gr.new (o := .lst (byKeys ws (xs.map kd))) q3.1.sh hp
      exact q _ _ _ ((q1.trans q2).trans (q3.trans (Post.of q3.2 gr))) ⟨p, _, rfl, upd_same, byKeys_tys (h4.mono (q3.1.ss.comp gr.ss))⟩
end
end Z
end

section
set_option autoImplicit false
/-! Y5: set(xs), xs a list of ints. -/
namespace ZL
open PySem PySem.W L2 PyProof.Rows
abbrev set0 (w : World) : Obj := { cls := .type "set", dict := none, data := .set #[] 0 (.fresh 0 0 (!w.params.followText "set-order")) }
section
variable {P : Program} {w : World} {A : Around} {E : Value → Shared → Prop} {s : Shared}
set_option maxHeartbeats 3200000 in
theorem set_of_list {l : Addr} {items : Array Value} (ns : List Int) {Q : Value → Shared → Prop} (hh : A.handled = none) (hl : s.heap.IsList l items) (hit : IntsAre items.toList ns) (hb : ns.length + 1 < scanBound)
    (h : ∀ (h' : Heap) (tk c : Nat), SetR w h' s.heap.objs.size (fun j => decide (j ∈ ns)) c → c ≤ ns.length → (∀ b o, s.heap.get? b = some o → h'.get? b = some o) → Q (.ref s.heap.objs.size) { s with heap := h', toks := tk }) :
    wpAny (model P w) A (call (.type "set") [.ref l]) Q E s := by
  have isz : items.size = ns.length := Array.length_toList.symm.trans (IntsAre.length hit)
  obtain ⟨c, tl, hmro⟩ := PySem.F.called_set.mro
  have hmade := PySem.F.called_set.made
  have hsub := PySem.F.called_set.sub
  have h1 := PySem.F.called_set.notType
  have h2 := PySem.F.called_set.canCreate
  have hct := PySem.F.typeCall_set_1 (.ref l)
  refine wpAny_call (codeAny_of_tree ?_)
  show wpAny _ _ (callAny (.type "set") _) _ _ _
  refine wpAny_pure ⟨Code.quiet_builtin _ (by decide +kernel), codeAny_builtin PySem.F.entry_type_call ?_⟩
  rw [Around.under_plain (weight_type_call_type "set" [.ref l] []) rfl]
  repeat (any_goals (first | assumption | wp_step))
  have hS : (s.heap.push (set0 w)).get? s.heap.objs.size = some (set0 w) := Heap.get?_push_size _ rfl
  have hT : Shared.TypeIs { s with heap := s.heap.push (set0 w) } (.ref s.heap.objs.size) "set" := ⟨_, hS, rfl⟩
  refine codeAny_mono (code_set_led1 (.ref l) (E := E) (Q₁ := fun ob s1 => ob = .ref s.heap.objs.size ∧ s1 = { s with heap := s.heap.push (set0 w) }) ⟨rfl, rfl⟩) fun r s1 hr => ?_
  cases r with
  | error e => exact hr
  | ok fl =>
    cases fl with
    | ret ob =>
      obtain ⟨e1, e2⟩ := hr
      subst e1 e2
      have hli := PySem.F.called_set.init.lookup
      have hbi := PySem.F.called_set.init.bind (.ref s.heap.objs.size)
      repeat (any_goals (first | assumption | wp_step))
      refine codeAny_mono (codeAny_call_builtin (R := wants (fun r s2 => r = .none ∧ ∃ h' tk c, s2 = { s with heap := h', toks := tk } ∧ SetR w h' s.heap.objs.size (fun j => decide (j ∈ ns)) c ∧ c ≤ ns.length ∧ (∀ b o, s.heap.get? b = some o → h'.get? b = some o)) E)
        PySem.F.called_set.init.plain PySem.F.entry_set_init (check_set_init_1 hT ?_)) fun r2 s2 hr2 => ?_
      · have lS : l < s.heap.objs.size := let ⟨_, z, _⟩ := hl; Heap.lt_size z
        have hl1 : (s.heap.push (set0 w)).IsList l items := hl.push _
        obtain ⟨⟨oc, od, dt, sl⟩, hol, hcl, nl, hdl⟩ := id hl1
        simp only at hcl hdl
        subst hcl hdl
        have hsls := PySem.F.sub_list_set
        have hslf := PySem.F.sub_list_frozenset
        have hne : (Value.type "list" == Value.type "dict") = false := by decide
        unfold Builtin.«set.__init__» noKeywords Builtin.Frozenset.updateFrom
        generalize hPI : pyIter = PI
        wp_walk
        subst hPI
        refine wpAny_pyIter_list hl1 (wpAny_bind (wpAny_runValue ?_))
        have hd : A.in1.in1.in1.handled = none := by simp [hh]
        have z1 : (s.heap.push (set0 w)).objs.size = s.heap.objs.size + 1 := Heap.size_push ..
        have hI : l ≠ (s.heap.push (set0 w)).objs.size := by rw [z1]; exact Nat.ne_of_lt (Nat.lt_succ_of_lt lS)
        have hSf : s.heap.objs.size ∉ [(s.heap.push (set0 w)).objs.size, l] := by
          rw [z1]
          simp only [List.mem_cons, List.not_mem_nil, or_false, not_or]
          exact ⟨Nat.ne_of_lt (Nat.lt_succ_self _), Nat.ne_of_gt lS⟩
        have val : ∀ (i : Nat) (v : Value), items[i]? = some v → ∃ k t, ns[i]? = some k ∧ v = .int k t := fun i v hv => by
          have hi : i < ns.length := by rw [← isz]; exact (Array.getElem?_eq_some_iff.mp hv).1
          obtain ⟨t, e⟩ := PyProof.Rows.IntsAre.int_at hit i v (by rw [Array.getElem?_toList]; exact hv)
          exact ⟨ns[i], t, List.getElem?_eq_getElem hi, by rw [e, List.getD_eq_getElem?_getD, List.getElem?_eq_getElem hi] <;> rfl⟩
        refine set_update_ints ((Walks.list hd _ l hI items).toS) s.heap.objs.size hSf ns isz hb val (items.size - 0) 0 _ (by omega) (Nat.zero_le _) ⟨⟨_, Heap.get?_push_size _ rfl, rfl, rfl⟩, (hl1.push _)⟩ ?start ?stop
        case start => exact ⟨0, Nat.le_refl 0, setR_new_at (Heap.get?_push_of_some _ hS)⟩
        case stop =>
          intro s' c' hm hc' hS'
          obtain ⟨h', g2, d', tk', os'⟩ := s'
          have eg : g2 = s.gens := hm.gens
          have ed : d' = s.drawn := hm.drawn
          have eo : os' = s.os := hm.os
          subst eg ed eo
          rw [isz] at hc'
          show wpAny _ _ _ _ _ _
          refine wpAny_pure ?_
          show wpAny _ _ (ret Value.none) _ _ _
          refine wpAny_pure ⟨rfl, h', tk', c', rfl, hS', hc', fun b o e => hm.heap b o ?_ (Heap.get?_push_of_some _ (Heap.get?_push_of_some _ e))⟩
          have lt := Heap.lt_size e
          rw [z1]
          simp only [List.mem_cons, List.not_mem_nil, or_false, not_or]
          exact ⟨Nat.ne_of_lt lt, Nat.ne_of_lt (Nat.lt_succ_of_lt lt)⟩
      · cases r2 with
        | error e => exact hr2
        | ok fl2 =>
          cases fl2 with
          | ret r =>
            obtain ⟨e3, h', tk, c', e4, k1, k2, k3⟩ := hr2
            subst e3 e4
            repeat (any_goals (first | assumption | wp_step))
            exact h _ _ _ k1 k2 k3
          | _ => exact hr2.elim
    | _ => exact hr.elim
end
end ZL
end

section
/-! Z13: comprehensions in use; sets. -/
namespace Z
open PySem PySem.Spec L2 PyProof.Rows ZL
section
variable {α ι : Type} {g : Gc} {l : Lc} {M : Md} {B S_0 H_0 : Hp} {G : List Slot} {pos p p1 p2 kpos spos py : Pos} {a e : Expr} {t u : Ty} {tg iter elt kx vx : Expr} {ifs : List Expr} {scope : Scope} {own : List (Str × Nat)} {vs : List Nat} {rest : List Stmt} {D : Ends} {C : Expr}
/-- a comprehension as a new cell -/
theorem xf_of {c : Cell} (h : XC g l M G e c.con) : XF g l M G e (fun _ : Unit => True) (fun _ => c) := fun X A => conv (h X A) fun σ H Q ⟨S, pr, q⟩ => ⟨S, pr, fun p S' H' q1 hp hd => by
  obtain ⟨_, h2, o, h3, h4⟩ := hd
  exact q () p S' H' o trivial q1 hp h2 h3 h4⟩
theorem x_of {c : Cell} (h : XC g l M G e c.con) : XE g l M G e c.ty := x_sub (xf_x (xf_of h)) fun S v ⟨_, _, h⟩ => h
/-- name = C: a cell of one's own -/
theorem xb_ownC (i : Nat) {c : Cell} {st : Stmt} (h : XSc g l M G st i c.con) (k : ∀ p, XB g l (Ct M B S_0 H_0 (G.set i (.own p c))) rest D) : XB g l (Ct M B S_0 H_0 G) (st :: rest) D :=
  xb_cons (fun σ H => ∃ p : Addr, Ct M B S_0 H_0 (G.set i (.own p c)) σ H) (fun X A => convS (h X A) fun D' σ H ⟨ct, le⟩ => by
    have z := tF_asg (q := fun _ : Unit => True) (c := fun _ => c) (i := i) (N := D'.nx) ct fun _ p σ H _ ct' => le.nx _ _ ⟨p, ct'⟩
    obtain ⟨S, pr, q⟩ := z
    exact ⟨S, pr, fun p S' H' q1 hp hd => by
      obtain ⟨_, h2, o, h3, h4⟩ := hd
      exact q () p S' H' o trivial q1 hp h2 h3 h4⟩) (xb_ex k)
/-- .. frozen at once -/
theorem xb_setC (i : Nat) {c : Cell} {st : Stmt} (h : XSc g l M G st i c.con) (k : XB g l (Ct M B S_0 H_0 (G.set i (.ty c.ty))) rest D) (hi : i < G.length := by exact of_decide_eq_true rfl) : XB g l (Ct M B S_0 H_0 G) (st :: rest) D :=
  xb_ownC i h fun p => xb_frz i (List.getElem?_set_self hi) (by rw [List.set_set]; exact k)
/-- one clause over typed items -/
theorem yc_map {xs : List α} {T : α → Ty} {G1 : α → List Slot} {f : α → Bool} {b : Bod} (c : List α → Con) (hg : ∀ D x, x ∈ xs → XG g l (M.gd D) (wipeG G vs) vs tg (T x) (G1 x)) (ht : ∀ D x, x ∈ xs → XTs g l (M.gd D) (G1 x) ifs (fun b => b = f x))
    (hb : ∀ ys x, x ∈ xs → f x = true → ys.length < xs.length → YB g l M (G1 x) vs b (c ys) (c (ys ++ [x]))) (hn : ∀ ys x, f x = false → c (ys ++ [x]) = c ys) :
    YC g l M G vs tg ifs b (xs.map T) (atOr xs G1 []) (atOr xs f false) (fun i => c (xs.take i)) where
  xg := fun D i t h => by
    obtain ⟨x, hx, hm, rfl⟩ := map_get h
    rw [atOr_eq hx]
    exact hg D x hm
  xt := fun D i t h => by
    obtain ⟨x, hx, hm, rfl⟩ := map_get h
    rw [atOr_eq hx, atOr_eq hx]
    exact ht D x hm
  bd := fun i t h hf => by
    obtain ⟨x, hx, hm, rfl⟩ := map_get h
    rw [atOr_eq hx] at hf ⊢
    rw [take_succ_get hx]
    exact hb _ x hm hf (by
      have := (List.getElem?_eq_some_iff.mp hx).1
      rw [List.length_take]; omega)
  no := fun i hi hf => by
    rw [List.length_map] at hi
    have hx : xs[i]? = some xs[i] := List.getElem?_eq_getElem hi
    rw [atOr_eq hx] at hf
    rw [take_succ_get hx]
    exact hn _ _ hf
theorem take_all {xs : List α} {T : α → Ty} : xs.take (xs.map T).length = xs := by rw [List.length_map, List.take_length]

/-! dict comprehensions -/
theorem cl_D {X : Cx} {d : Addr} : Cl X (.DictComp kx vx [⟨tg, iter, ifs, 0⟩] scope pos) 0 (.ref d) tg iter ifs (bodD kx vx (.ref d) X.env) := ⟨fun _ => rfl, rfl, fun _ => rfl, fun _ => rfl, fun _ => rfl, fun _ => rfl⟩
theorem cl_L {X : Cx} {d : Addr} : Cl X (.ListComp elt [⟨tg, iter, ifs, 0⟩] scope pos) 0 (.ref d) tg iter ifs (bodL elt (.ref d) X.env) := ⟨fun _ => rfl, rfl, fun _ => rfl, fun _ => rfl, fun _ => rfl, fun _ => rfl⟩
theorem cl_S {X : Cx} {d : Addr} : Cl X (.SetComp elt [⟨tg, iter, ifs, 0⟩] scope pos) 0 (.ref d) tg iter ifs (bodS elt (.ref d) X.env) := ⟨fun _ => rfl, rfl, fun _ => rfl, fun _ => rfl, fun _ => rfl, fun _ => rfl⟩
/-- a comprehension swaps with its name -/
theorem sw_of {C : Expr} {y : Str} {ln : Nat} {sc : Scope} (h : ∀ env : PySem.Env, swapsWith C (some (.Name y py)) ln env = pure (env.blockKind == .function && env.kindOf y == some .local && py.line == C.pos.line && !(sc.names.any fun (n, k) => n == y && (k == .local || k == .cell))))
    (hl : (py.line == C.pos.line) = true) (ha : (sc.names.any fun (n, k) => n == y && (k == .local || k == .cell)) = false) (env : PySem.Env) (hk : env.scope.kind = .function) (hy : env.scope.names.lookup y = some .local) : swapsWith C (some (.Name y py)) ln env = pure true := by
  have ky : env.kindOf y = some .local := hy
  have hb : env.blockKind = .function := by unfold Env.blockKind; rw [hk]; rfl
  rw [h, hb, ky, hl, ha]
  rfl
section
variable {xs : List α} {T U : α → Ty} {G1 : α → List Slot} {key : α → List Key} {key' : α → Key}
theorem yc_T (hg : ∀ D x, x ∈ xs → XG g l (M.gd D) (wipeG G vs) vs tg (T x) (G1 x)) (hk : ∀ D x, x ∈ xs → XE g l (M.gd D) (G1 x) kx (tKs (key x))) (hv : ∀ D x, x ∈ xs → XE g l (M.gd D) (G1 x) vx (U x)) (hz : xs.length ≤ 50000) :
    YC g l M G vs tg [] (bodD kx vx) (xs.map T) (atOr xs G1 []) (atOr xs (fun _ => true) false) (fun i => cnT (buildA key U (xs.take i))) :=
  yc_map (f := fun _ => true) (fun ys => cnT (buildA key U ys)) hg (fun D x _ => xts_nil) (fun ys x hx _ hl => by
    show YB g l M (G1 x) vs (bodD kx vx) (cnT (buildA key U ys)) (cnT (buildA key U (ys ++ [x])))
    rw [buildA_snoc]
    have := buildA_len (key := key) (val := U) ys
    exact yb_T (fun D => hk D x hx) (fun D => hv D x hx) (by omega)) fun ys x h => nomatch h
theorem yc_K (hg : ∀ D x, x ∈ xs → XG g l (M.gd D) (wipeG G vs) vs tg (T x) (G1 x)) (hk : ∀ D x, x ∈ xs → XE g l (M.gd D) (G1 x) kx (tKy (key' x))) (hv : ∀ D x, x ∈ xs → XE g l (M.gd D) (G1 x) vx (U x)) (hz : xs.length ≤ 50000) :
    YC g l M G vs tg [] (bodD kx vx) (xs.map T) (atOr xs G1 []) (atOr xs (fun _ => true) false) (fun i => cnK (buildA key' U (xs.take i))) :=
  yc_map (f := fun _ => true) (fun ys => cnK (buildA key' U ys)) hg (fun D x _ => xts_nil) (fun ys x hx _ hl => by
    show YB g l M (G1 x) vs (bodD kx vx) (cnK (buildA key' U ys)) (cnK (buildA key' U (ys ++ [x])))
    rw [buildA_snoc]
    have := buildA_len (key := key') (val := U) ys
    exact yb_K (fun D => hk D x hx) (fun D => hv D x hx) (by omega)) fun ys x h => nomatch h
theorem yc_L {f : α → Bool} (hg : ∀ D x, x ∈ xs → XG g l (M.gd D) (wipeG G vs) vs tg (T x) (G1 x)) (ht : ∀ D x, x ∈ xs → XTs g l (M.gd D) (G1 x) ifs (fun b => b = f x)) (he : ∀ D x, x ∈ xs → f x = true → XE g l (M.gd D) (G1 x) elt (U x)) (hz : xs.length ≤ 50000) :
    YC g l M G vs tg ifs (bodL elt) (xs.map T) (atOr xs G1 []) (atOr xs f false) (fun i => cnL (((xs.take i).filter f).map U)) :=
  yc_map (f := f) (fun ys => cnL ((ys.filter f).map U)) hg ht (fun ys x hx hf hl => by
    show YB g l M (G1 x) vs (bodL elt) (cnL ((ys.filter f).map U)) (cnL (((ys ++ [x]).filter f).map U))
    rw [List.filter_append, List.map_append, List.filter_cons_of_pos hf]
    have := List.length_filter_le f ys
    exact yb_L (fun D => he D x hx hf) (by rw [List.length_map]; omega)) fun ys x h => by
    show cnL (((ys ++ [x]).filter f).map U) = _
    rw [List.filter_append, List.filter_cons_of_neg (by rw [h]; exact Bool.false_ne_true)]
    simp
theorem yc_S {f : α → Bool} {n : α → Int} (hg : ∀ D x, x ∈ xs → XG g l (M.gd D) (wipeG G vs) vs tg (T x) (G1 x)) (ht : ∀ D x, x ∈ xs → XTs g l (M.gd D) (G1 x) ifs (fun b => b = f x)) (he : ∀ D x, x ∈ xs → f x = true → XE g l (M.gd D) (G1 x) elt (tIn (n x))) (hz : xs.length ≤ 900) :
    YC g l M G vs tg ifs (bodS elt) (xs.map T) (atOr xs G1 []) (atOr xs f false) (fun i => cnS g.w (((xs.take i).filter f).map n)) :=
  yc_map (f := f) (fun ys => cnS g.w ((ys.filter f).map n)) hg ht (fun ys x hx hf hl => by
    show YB g l M (G1 x) vs (bodS elt) (cnS g.w ((ys.filter f).map n)) (cnS g.w (((ys ++ [x]).filter f).map n))
    rw [List.filter_append, List.map_append, List.filter_cons_of_pos hf]
    have := List.length_filter_le f ys
    exact yb_S (fun D => he D x hx hf) (by rw [List.length_map]; omega)) fun ys x h => by
    show cnS g.w (((ys ++ [x]).filter f).map n) = _
    rw [List.filter_append, List.filter_cons_of_neg (by rw [h]; exact Bool.false_ne_true)]
    simp
/-- {k: v for tg in iter}, the keys tuples; as a value, as name = .. -/
theorem xc_T (hvs : vs = own.map (·.2)) (hi : XI g l M G tg iter (xs.map T)) (ok : BlkOk l.N l.sc scope own) (hz : xs.length ≤ 50000) (hg : ∀ D x, x ∈ xs → XG g (l.blk scope) (M.gd D) (wipeG G vs) vs tg (T x) (G1 x)) (hk : ∀ D x, x ∈ xs → XE g (l.blk scope) (M.gd D) (G1 x) kx (tKs (key x))) (hv : ∀ D x, x ∈ xs → XE g (l.blk scope) (M.gd D) (G1 x) vx (U x))
    (hs : ∀ env x, foldedSetIterable iter env x = pure x := by intro _ _; rfl) : XC g l M G (.DictComp kx vx [⟨tg, iter, [], 0⟩] scope pos) (Cell.con (.dT (buildA key U xs))) := by
  have h := xc_any (pos' := firstIterPos [⟨tg, iter, [], 0⟩] pos) hvs rfl (fun _ => rfl) beg_T hi ok (yc_T (key := key) hg hk hv hz) (fun X A D => cl_D) hs (C := .DictComp kx vx [⟨tg, iter, [], 0⟩] scope pos)
  rw [take_all] at h
  exact h
theorem xsc_T (i : Nat) {y : Str} (hvs : vs = own.map (·.2)) (hi : XI g l M G tg iter (xs.map T)) (ok : BlkOk l.N l.sc scope own) (hz : xs.length ≤ 50000) (hg : ∀ D x, x ∈ xs → XG g (l.blk scope) (M.gd D) (wipeG G vs) vs tg (T x) (G1 x)) (hk : ∀ D x, x ∈ xs → XE g (l.blk scope) (M.gd D) (G1 x) kx (tKs (key x))) (hv : ∀ D x, x ∈ xs → XE g (l.blk scope) (M.gd D) (G1 x) vx (U x))
    (hl : (py.line == pos.line) = true := by rfl) (han : (scope.names.any fun (n, k) => n == y && (k == .local || k == .cell)) = false := by decide +kernel) (hN : l.N[i]? = some y := by rfl) (hx : l.sc.names.lookup y = some .local := by rfl) (hs : ∀ env x, foldedSetIterable iter env x = pure x := by intro _ _; rfl) :
    XSc g l M G (.Assign [.Name y py] (.DictComp kx vx [⟨tg, iter, [], 0⟩] scope pos) spos) i (Cell.con (.dT (buildA key U xs))) := by
  have h := xsc_any (i := i) (py := py) (spos := spos) (x := y) (pos' := firstIterPos [⟨tg, iter, [], 0⟩] pos) hvs rfl (fun _ _ => rfl) (sw_of (C := .DictComp kx vx [⟨tg, iter, [], 0⟩] scope pos) (fun _ => rfl) hl han) beg_T hi ok (yc_T (key := key) hg hk hv hz) (fun X A D => cl_D) hN hx hs
  rw [take_all] at h
  exact h
theorem xsc_K (i : Nat) {y : Str} (hvs : vs = own.map (·.2)) (hi : XI g l M G tg iter (xs.map T)) (ok : BlkOk l.N l.sc scope own) (hz : xs.length ≤ 50000) (hg : ∀ D x, x ∈ xs → XG g (l.blk scope) (M.gd D) (wipeG G vs) vs tg (T x) (G1 x)) (hk : ∀ D x, x ∈ xs → XE g (l.blk scope) (M.gd D) (G1 x) kx (tKy (key' x))) (hv : ∀ D x, x ∈ xs → XE g (l.blk scope) (M.gd D) (G1 x) vx (U x))
    (hl : (py.line == pos.line) = true := by rfl) (han : (scope.names.any fun (n, k) => n == y && (k == .local || k == .cell)) = false := by decide +kernel) (hN : l.N[i]? = some y := by rfl) (hx : l.sc.names.lookup y = some .local := by rfl) (hs : ∀ env x, foldedSetIterable iter env x = pure x := by intro _ _; rfl) :
    XSc g l M G (.Assign [.Name y py] (.DictComp kx vx [⟨tg, iter, [], 0⟩] scope pos) spos) i (Cell.con (.dK (buildA key' U xs))) := by
  have h := xsc_any (i := i) (py := py) (spos := spos) (x := y) (pos' := firstIterPos [⟨tg, iter, [], 0⟩] pos) hvs rfl (fun _ _ => rfl) (sw_of (C := .DictComp kx vx [⟨tg, iter, [], 0⟩] scope pos) (fun _ => rfl) hl han) beg_K hi ok (yc_K (key' := key') hg hk hv hz) (fun X A D => cl_D) hN hx hs
  rw [take_all] at h
  exact h
/-- name = [elt for tg in iter if ..] -/
theorem xsc_L (i : Nat) {f : α → Bool} {y : Str} (hvs : vs = own.map (·.2)) (hi : XI g l M G tg iter (xs.map T)) (ok : BlkOk l.N l.sc scope own) (hz : xs.length ≤ 50000) (hg : ∀ D x, x ∈ xs → XG g (l.blk scope) (M.gd D) (wipeG G vs) vs tg (T x) (G1 x)) (ht : ∀ D x, x ∈ xs → XTs g (l.blk scope) (M.gd D) (G1 x) ifs (fun b => b = f x))
    (he : ∀ D x, x ∈ xs → f x = true → XE g (l.blk scope) (M.gd D) (G1 x) elt (U x))
    (hl : (py.line == pos.line) = true := by rfl) (han : (scope.names.any fun (n, k) => n == y && (k == .local || k == .cell)) = false := by decide +kernel) (hN : l.N[i]? = some y := by rfl) (hx : l.sc.names.lookup y = some .local := by rfl) (hs : ∀ env x, foldedSetIterable iter env x = pure x := by intro _ _; rfl) :
    XSc g l M G (.Assign [.Name y py] (.ListComp elt [⟨tg, iter, ifs, 0⟩] scope pos) spos) i (Cell.con (.lst ((xs.filter f).map U))) := by
  have h := xsc_any (i := i) (py := py) (spos := spos) (x := y) (pos' := firstIterPos [⟨tg, iter, ifs, 0⟩] pos) hvs rfl (fun _ _ => rfl) (sw_of (C := .ListComp elt [⟨tg, iter, ifs, 0⟩] scope pos) (fun _ => rfl) hl han) beg_L hi ok (yc_L hg ht he hz) (fun X A D => cl_L) hN hx hs
  rw [take_all] at h
  exact h
/-- {elt for tg in iter if ..}, ints -/
theorem xc_S {f : α → Bool} {n : α → Int} (hvs : vs = own.map (·.2)) (hi : XI g l M G tg iter (xs.map T)) (ok : BlkOk l.N l.sc scope own) (hz : xs.length ≤ 900) (hg : ∀ D x, x ∈ xs → XG g (l.blk scope) (M.gd D) (wipeG G vs) vs tg (T x) (G1 x)) (ht : ∀ D x, x ∈ xs → XTs g (l.blk scope) (M.gd D) (G1 x) ifs (fun b => b = f x))
    (he : ∀ D x, x ∈ xs → f x = true → XE g (l.blk scope) (M.gd D) (G1 x) elt (tIn (n x))) (hs : ∀ env x, foldedSetIterable iter env x = pure x := by intro _ _; rfl) : XC g l M G (.SetComp elt [⟨tg, iter, ifs, 0⟩] scope pos) (cnS g.w ((xs.filter f).map n)) := by
  have h := xc_any (pos' := firstIterPos [⟨tg, iter, ifs, 0⟩] pos) hvs rfl (fun _ => rfl) beg_S hi ok (yc_S hg ht he hz) (fun X A D => cl_S) hs (C := .SetComp elt [⟨tg, iter, ifs, 0⟩] scope pos)
  rw [take_all] at h
  exact h
end
/-! sets -/
/-- rising, and the members of ns -/
def Srt (ns ms : List Int) : Prop := ms.Pairwise (· < ·) ∧ ∀ k, k ∈ ms ↔ k ∈ ns
theorem x_sortS {ns : List Int} (h : XC g l M G a (cnS g.w ns)) (hn : ns.length < 64) (hm : g.mg "sorted" = none) (hg : l.sc.names.lookup ("sorted" : Str) = some .globalImplicit := by rfl) (hs : ∀ env, starEach [a] env = (false, eval a env) :: starEach [] env := by intro _; rfl) (hpl : ∀ env, (backTo pos (starEach [] env)).any (·.1) = false := by intro _; rfl) :
    XE g l M G (.Call (.Name "sorted" p) [a] [] pos) (tEx (Srt ns) fun ms => tLs (ms.map tIn)) := fun X A =>
  conv (pe_callB (cr_sortedSet A.calm) (A.gl hg) (by rw [A.mg]; exact hm) boot_sorted' (pa_cons (h X A) pa_nil (hs _)) (by decide) (by decide) (hs _) (hpl _)) fun σ H Q ⟨S, pr, q⟩ => ⟨S, pr, fun c S1 H1 q1 hc hd => by
    obtain ⟨k1, k2, o, k3, n, k4, k5⟩ := hd
    subst k4
    rw [← A.w] at k3
    refine ⟨c, _, n, rfl, k3, by omega, fun ms p m1 m2 m3 hp => ?_⟩
    have gr := Gr.new (o := .lst (ms.map V.int)) q1.1.sh hp
    exact q _ _ _ (q1.trans (Post.of q1.2 gr)) ⟨ms, ⟨m1, fun k => by rw [m2]; simp⟩, p, _, rfl, upd_same, Tys.map fun x _ => rfl⟩⟩
def rSetL (K : PySem.W.Frag) (w : World) : List V → Hp → VK → Prop := fun vs H Q => ∃ (a : Addr) (ns : List Int), vs = [.ref a] ∧ SqL K H a (ns.map V.int) ∧ ns.length < 900 ∧ ∀ n p, H p = none → n ≤ ns.length → Q (.ref p) (upd H p (SetO w p (fun j => decide (j ∈ ns)) n))
theorem cr_setL {X : Cx} (hc : X.calm = true) : CallR X (.type "set") (rSetL X.K X.w) := by
  intro pins s σ H vs us Q I r ⟨a, ns, e1, e2, e3, q⟩
  subst e1
  obtain ⟨u, eu, ru⟩ := vals1 r
  subst eu
  cases ru
  obtain ⟨its, rv, pl, hz⟩ := I.list e2
  have hb : ns.length + 1 < scanBound := by
    have : (901 : Nat) < scanBound := by decide
    omega
  refine set_of_list ns (I.ok.hd hc) pl.isList (by simpa using rv.ints) hb fun h' tk c R hc' k => ?_
  have fr := I.hok.fresh (Nat.le_refl _)
  exact ⟨.ref _, _, I.laid (t' := tk) k (Nat.le_refl _) (setO_new R), rfl, q c _ fr hc'⟩
theorem boot_set' : bootBuiltins ("set" : Str) = some (.type "set") := by decide +kernel
theorem ints_of' {S : Hp} : ∀ {ns : List Int} {vs : List V}, Tys S (ns.map tIn) vs → vs = ns.map V.int
  | [], _, h => by cases h; rfl
  | n :: ns, _, h => by
    cases h with
    | cons a r => rw [show _ = V.int n from a, ints_of' r] <;> rfl
theorem xc_set {ns : List Int} (h : XE g l M G a (tLs (ns.map tIn))) (hn : ns.length < 900) (hm : g.mg "set" = none) (hg : l.sc.names.lookup ("set" : Str) = some .globalImplicit := by rfl) (hs : ∀ env, starEach [a] env = (false, eval a env) :: starEach [] env := by intro _; rfl) (hpl : ∀ env, (backTo pos (starEach [] env)).any (·.1) = false := by intro _; rfl) :
    XC g l M G (.Call (.Name "set" p) [a] [] pos) (cnS g.w ns) := fun X A =>
  conv (pe_callTy (cr_setL A.calm) (A.gl hg) (by rw [A.mg]; exact hm) boot_set' (xa_1 h hs X A) (by decide) (by decide) (hs _) (hpl _)) fun σ H Q ⟨S, pr, q⟩ => tA.step pr fun vs S1 H1 q1 p1 h1 => by
    obtain ⟨v, rfl, c, ws, rfl, h3, h4⟩ := h1.one
    rw [ints_of' h4] at h3
    refine ⟨c, ns, rfl, SqL.of (p1.1 _ _ h3), hn, fun n p hp hl => ?_⟩
    rw [A.w]
    have gr := Gr.lay (o := SetO g.w p (fun j => decide (j ∈ ns)) n) p1.1 hp
    exact q p S1 _ (q1.trans (Post.of p1.2.1 gr)) (q1.1.fresh hp) ⟨M.fresh p1.2.1 hp, p1.1.none hp, _, upd_same, n, rfl, hl⟩
end
end Z
end

section
/-! Z14: list comprehensions of two and three clauses. -/
namespace Z
open PySem PySem.Spec L2 PyProof.Rows ZL
section
variable {α β γ : Type} {g : Gc} {l : Lc} {M : Md} {G : List Slot} {pos p : Pos} {tg iter elt tg1 iter1 tg2 iter2 : Expr} {scope : Scope} {own : List (Str × Nat)} {vs : List Nat} {C : Expr} {lvl : Nat} {b : Bod} {us : List Ty} {u : Ty}
theorem cl_in0 {X : Cx} {acc : Value} {ifs ifs1 : List Expr} {gs : List Comprehension} : Cl X (.ListComp elt (⟨tg, iter, ifs, 0⟩ :: ⟨tg1, iter1, ifs1, 0⟩ :: gs) scope pos) 0 acc tg iter ifs (inB (.ListComp elt (⟨tg, iter, ifs, 0⟩ :: ⟨tg1, iter1, ifs1, 0⟩ :: gs) scope pos) 1 iter1 acc X.env) := by
  refine ⟨fun it => ?_, rfl, fun _ => rfl, fun _ => rfl, fun _ => rfl, fun _ => rfl⟩
  have h : compTurn (.ListComp elt (⟨tg, iter, ifs, 0⟩ :: ⟨tg1, iter1, ifs1, 0⟩ :: gs) scope pos) 0 it acc X.env = (do
      standAt iter.pos
      match ← pyNext it with
      | none => pure (.done .next)
      | some v =>
        letOwnedTupleGo tg it v
        assign tg X.env v
        let mut ok := true
        for c in ifs do
          if ok then ok ← isTrue c X.env (eval c X.env)
        if ok then
          let x ← eval iter1 X.env
          standAt iter1.pos
          let x ← foldedSetIterable iter1 X.env x
          let _ ← runOwn (.compStart (.ListComp elt (⟨tg, iter, ifs, 0⟩ :: ⟨tg1, iter1, ifs1, 0⟩ :: gs) scope pos) 1 (← holding [x] (pyIter x)) acc X.env) X.env
        again (.compLoop (.ListComp elt (⟨tg, iter, ifs, 0⟩ :: ⟨tg1, iter1, ifs1, 0⟩ :: gs) scope pos) 0 it acc X.env)) := rfl
  rw [h]
  simp only [inB, bind_assoc, pure_bind]
  all_goals rfl
theorem cl_in1 {X : Cx} {acc : Value} {ifs ifs1 : List Expr} {g0 : Comprehension} {gs : List Comprehension} : Cl X (.ListComp elt (g0 :: ⟨tg, iter, ifs, 0⟩ :: ⟨tg1, iter1, ifs1, 0⟩ :: gs) scope pos) 1 acc tg iter ifs (inB (.ListComp elt (g0 :: ⟨tg, iter, ifs, 0⟩ :: ⟨tg1, iter1, ifs1, 0⟩ :: gs) scope pos) 2 iter1 acc X.env) := by
  refine ⟨fun it => ?_, rfl, fun _ => rfl, fun _ => rfl, fun _ => rfl, fun _ => rfl⟩
  have h : compTurn (.ListComp elt (g0 :: ⟨tg, iter, ifs, 0⟩ :: ⟨tg1, iter1, ifs1, 0⟩ :: gs) scope pos) 1 it acc X.env = (do
      standAt iter.pos
      match ← pyNext it with
      | none => pure (.done .next)
      | some v =>
        letOwnedTupleGo tg it v
        assign tg X.env v
        let mut ok := true
        for c in ifs do
          if ok then ok ← isTrue c X.env (eval c X.env)
        if ok then
          let x ← eval iter1 X.env
          standAt iter1.pos
          let x ← foldedSetIterable iter1 X.env x
          let _ ← runOwn (.compStart (.ListComp elt (g0 :: ⟨tg, iter, ifs, 0⟩ :: ⟨tg1, iter1, ifs1, 0⟩ :: gs) scope pos) 2 (← holding [x] (pyIter x)) acc X.env) X.env
        again (.compLoop (.ListComp elt (g0 :: ⟨tg, iter, ifs, 0⟩ :: ⟨tg1, iter1, ifs1, 0⟩ :: gs) scope pos) 1 it acc X.env)) := rfl
  rw [h]
  simp only [inB, bind_assoc, pure_bind]
  all_goals rfl
theorem map_flat {α β : Type} (f : α → β) : ∀ l : List α, l.map f = l.flatMap fun y => [f y]
  | [] => rfl
  | x :: l => by rw [List.map_cons, List.flatMap_cons, map_flat f l]; rfl
/-- a step that lays us behind what is there -/
def YA (g : Gc) (l : Lc) (M : Md) (G : List Slot) (vs : List Nat) (b : Bod) (us : List Ty) : Prop := ∀ ts : List Ty, ts.length + us.length ≤ 5000 → YB g l M G vs b (cnL ts) (cnL (ts ++ us))
theorem ya_L (he : ∀ D, XE g l (M.gd D) G elt u) : YA g l M G vs (bodL elt) [u] := fun ts h => yb_L he (by
  have h : ts.length + 1 ≤ 5000 := h
  omega)
theorem ya_c {xs : List α} {T : α → Ty} {G1 : α → List Slot} {w : α → List Ty} (hg : ∀ D x, x ∈ xs → XG g l (M.gd D) (wipeG G vs) vs tg (T x) (G1 x)) (hb : ∀ x, x ∈ xs → YA g l M (G1 x) vs b (w x)) (ts : List Ty) (hl : ts.length + (xs.flatMap w).length ≤ 5000) :
    YC g l M G vs tg [] b (xs.map T) (atOr xs G1 []) (atOr xs (fun _ => true) false) (fun i => cnL (ts ++ (xs.take i).flatMap w)) where
  xg := fun D i t h => by
    obtain ⟨x, hx, hm, rfl⟩ := map_get h
    rw [atOr_eq hx]
    exact hg D x hm
  xt := fun D i t h => by
    obtain ⟨x, hx, hm, rfl⟩ := map_get h
    rw [atOr_eq hx, atOr_eq hx]
    exact xts_nil
  bd := fun i t h hf => by
    obtain ⟨x, hx, hm, rfl⟩ := map_get h
    rw [atOr_eq hx, take_succ_get hx, List.flatMap_append, ← List.append_assoc]
    have e : [x].flatMap w = w x := by simp
    rw [e]
    refine hb x hm _ ?_
    have hle : (xs.flatMap w).length = ((xs.take i).flatMap w).length + ((xs.drop i).flatMap w).length := by
      rw [← List.length_append, ← List.flatMap_append, List.take_append_drop]
    have hd : xs.drop i = x :: xs.drop (i + 1) := by
      obtain ⟨h1, h2⟩ := List.getElem?_eq_some_iff.mp hx
      rw [List.drop_eq_getElem_cons h1, h2]
    rw [hd, List.flatMap_cons, List.length_append] at hle
    rw [List.length_append]
    omega
  no := fun i hi hf => by
    rw [List.length_map] at hi
    have hx : xs[i]? = some xs[i] := List.getElem?_eq_getElem hi
    rw [atOr_eq hx] at hf
    exact nomatch hf
theorem ya_in {xs : List α} {T : α → Ty} {G1 : α → List Slot} {w : α → List Ty} {vs1 : List Nat} (hi : ∀ D, XI g l (M.gd D) G tg iter (xs.map T)) (hg : ∀ D x, x ∈ xs → XG g l (M.gd D) (wipeG G vs1) vs1 tg (T x) (G1 x)) (hb : ∀ x, x ∈ xs → YA g l M (G1 x) vs1 b (w x)) (hsub : ∀ j ∈ vs1, j ∈ vs)
    (hcl : ∀ X, At g l X → ∀ D, Cl X C lvl (.ref D) tg iter [] (b (.ref D) X.env)) (hs : ∀ env x, foldedSetIterable iter env x = pure x := by intro _ _; rfl) : YA g l M G vs (inB C lvl iter) (xs.flatMap w) := fun ts hl => by
  have h := yb_in (c := fun i => cnL (ts ++ (xs.take i).flatMap w)) hi (ya_c hg hb ts hl) hsub hcl hs
  rw [take_all] at h
  have e : ts ++ (xs.take 0).flatMap w = ts := by simp
  rw [e] at h
  exact h
theorem xc_A {xs : List α} {T : α → Ty} {G1 : α → List Slot} {w : α → List Ty} {gs : List Comprehension} (hvs : vs = own.map (·.2)) (hi : XI g l M G tg iter (xs.map T)) (ok : BlkOk l.N l.sc scope own) (hg : ∀ D x, x ∈ xs → XG g (l.blk scope) (M.gd D) (wipeG G vs) vs tg (T x) (G1 x)) (hb : ∀ x, x ∈ xs → YA g (l.blk scope) M (G1 x) vs b (w x)) (hz : (xs.flatMap w).length ≤ 5000)
    (hcl : ∀ X, At g (l.blk scope) X → ∀ D, Cl X (.ListComp elt (⟨tg, iter, [], 0⟩ :: gs) scope pos) 0 (.ref D) tg iter [] (b (.ref D) X.env)) (hs : ∀ env x, foldedSetIterable iter env x = pure x := by intro _ _; rfl) : XE g l M G (.ListComp elt (⟨tg, iter, [], 0⟩ :: gs) scope pos) (tLs (xs.flatMap w)) := by
  have h := xc_any (pos' := firstIterPos (⟨tg, iter, [], 0⟩ :: gs) pos) (c := fun i => cnL ([] ++ (xs.take i).flatMap w)) hvs rfl (fun _ => rfl) beg_L hi ok (ya_c hg hb [] (by simpa using hz)) hcl hs (C := .ListComp elt (⟨tg, iter, [], 0⟩ :: gs) scope pos)
  rw [take_all] at h
  exact x_of (c := .lst (xs.flatMap w)) h
/-- [elt for tg in iter for tg1 in iter1] -/
theorem x_lc2 {xs : List α} {T : α → Ty} {G1 : α → List Slot} {ys : α → List β} {T1 : β → Ty} {G2 : α → β → List Slot} {U : α → β → Ty} {vs1 : List Nat} (hvs : vs = own.map (·.2)) (hi : XI g l M G tg iter (xs.map T)) (ok : BlkOk l.N l.sc scope own) (hg : ∀ D x, x ∈ xs → XG g (l.blk scope) (M.gd D) (wipeG G vs) vs tg (T x) (G1 x))
    (hi1 : ∀ D x, x ∈ xs → XI g (l.blk scope) (M.gd D) (G1 x) tg1 iter1 ((ys x).map T1)) (hg1 : ∀ D x, x ∈ xs → ∀ y, y ∈ ys x → XG g (l.blk scope) (M.gd D) (wipeG (G1 x) vs1) vs1 tg1 (T1 y) (G2 x y)) (he : ∀ D x, x ∈ xs → ∀ y, y ∈ ys x → XE g (l.blk scope) (M.gd D) (G2 x y) elt (U x y)) (hsub : ∀ j ∈ vs1, j ∈ vs)
    (hz : (xs.flatMap fun x => (ys x).map (U x)).length ≤ 5000) (hs : ∀ env x, foldedSetIterable iter env x = pure x := by intro _ _; rfl) (hs1 : ∀ env x, foldedSetIterable iter1 env x = pure x := by intro _ _; rfl) :
    XE g l M G (.ListComp elt [⟨tg, iter, [], 0⟩, ⟨tg1, iter1, [], 0⟩] scope pos) (tLs (xs.flatMap fun x => (ys x).map (U x))) := by
  refine xc_A (b := inB (.ListComp elt [⟨tg, iter, [], 0⟩, ⟨tg1, iter1, [], 0⟩] scope pos) 1 iter1) hvs hi ok hg (fun x hx => ?_) hz (fun X A D => cl_in0) hs
  rw [map_flat (U x) (ys x)]
  exact ya_in (fun D => hi1 D x hx) (fun D y hy => hg1 D x hx y hy) (fun y hy => ya_L fun D => he D x hx y hy) hsub (fun X A D => ⟨fun _ => rfl, rfl, fun _ => rfl, fun _ => rfl, fun _ => rfl, fun _ => rfl⟩) hs1
/-- [elt for tg in iter for tg1 in iter1 for tg2 in iter2] -/
theorem x_lc3 {xs : List α} {T : α → Ty} {G1 : α → List Slot} {ys : α → List β} {T1 : β → Ty} {G2 : α → β → List Slot} {zs : β → List γ} {T2 : γ → Ty} {G3 : α → β → γ → List Slot} {U : γ → Ty} {vs1 vs2 : List Nat} (hvs : vs = own.map (·.2)) (hi : XI g l M G tg iter (xs.map T)) (ok : BlkOk l.N l.sc scope own) (hg : ∀ D x, x ∈ xs → XG g (l.blk scope) (M.gd D) (wipeG G vs) vs tg (T x) (G1 x))
    (hi1 : ∀ D x, x ∈ xs → XI g (l.blk scope) (M.gd D) (G1 x) tg1 iter1 ((ys x).map T1)) (hg1 : ∀ D x, x ∈ xs → ∀ y, y ∈ ys x → XG g (l.blk scope) (M.gd D) (wipeG (G1 x) vs1) vs1 tg1 (T1 y) (G2 x y)) (hi2 : ∀ D x, x ∈ xs → ∀ y, y ∈ ys x → XI g (l.blk scope) (M.gd D) (G2 x y) tg2 iter2 ((zs y).map T2)) (hg2 : ∀ D x, x ∈ xs → ∀ y, y ∈ ys x → ∀ z, z ∈ zs y → XG g (l.blk scope) (M.gd D) (wipeG (G2 x y) vs2) vs2 tg2 (T2 z) (G3 x y z))
    (he : ∀ D x, x ∈ xs → ∀ y, y ∈ ys x → ∀ z, z ∈ zs y → XE g (l.blk scope) (M.gd D) (G3 x y z) elt (U z)) (hsub : ∀ j ∈ vs1, j ∈ vs) (hsub2 : ∀ j ∈ vs2, j ∈ vs1)
    (hz : (xs.flatMap fun x => (ys x).flatMap fun y => (zs y).map U).length ≤ 5000) (hs : ∀ env x, foldedSetIterable iter env x = pure x := by intro _ _; rfl) (hs1 : ∀ env x, foldedSetIterable iter1 env x = pure x := by intro _ _; rfl) (hs2 : ∀ env x, foldedSetIterable iter2 env x = pure x := by intro _ _; rfl) :
    XE g l M G (.ListComp elt [⟨tg, iter, [], 0⟩, ⟨tg1, iter1, [], 0⟩, ⟨tg2, iter2, [], 0⟩] scope pos) (tLs (xs.flatMap fun x => (ys x).flatMap fun y => (zs y).map U)) := by
  refine xc_A (b := inB (.ListComp elt [⟨tg, iter, [], 0⟩, ⟨tg1, iter1, [], 0⟩, ⟨tg2, iter2, [], 0⟩] scope pos) 1 iter1) hvs hi ok hg (fun x hx => ?_) hz (fun X A D => cl_in0) hs
  refine ya_in (b := inB (.ListComp elt [⟨tg, iter, [], 0⟩, ⟨tg1, iter1, [], 0⟩, ⟨tg2, iter2, [], 0⟩] scope pos) 2 iter2) (fun D => hi1 D x hx) (fun D y hy => hg1 D x hx y hy) (fun y hy => ?_) hsub (fun X A D => cl_in1) hs1
  rw [map_flat U (zs y)]
  exact ya_in (fun D => hi2 D x hx y hy) (fun D z hz => hg2 D x hx y hy z hz) (fun z hz => ya_L fun D => he D x hx y hy z hz) hsub2 (fun X A D => ⟨fun _ => rfl, rfl, fun _ => rfl, fun _ => rfl, fun _ => rfl, fun _ => rfl⟩) hs2
end
end Z
end

section
/-! T0: the data of the law, as typed; the module's names. -/
namespace Z
open PySem PySem.Spec L2
/-! ### data -/
def letter (c : Nat) : Bool := decide (97 ≤ c) && decide (c ≤ 122)
def wordOk (s : Str) : Bool := decide (1 ≤ s.cps.size) && decide (s.cps.size ≤ 8) && s.cps.all letter
abbrev Nm := { s : Str // wordOk s = true }
def valOk : Key → Bool
  | .inl i => decide (0 ≤ i) && decide (i ≤ 1000000000)
  | .inr s => wordOk s
abbrev Vl := { k : Key // valOk k = true }
abbrev Row := List Vl
inductive Mark where
  | any (k : Nat)
  | is (v : Vl)
  deriving DecidableEq
abbrev Line := Nm × List Mark
abbrev Sheet := List Mark × List Line
abbrev Tab := Nm × Nat × List Row
abbrev Book := List Tab
def kMk : Mark → List Key
  | .any k => [.inr "any", .inl (k : Int)]
  | .is v => [.inr "is", v.1]
theorem kMk_inj : ∀ {a b : Mark}, kMk a = kMk b → a = b
  | .any a, .any b, h => by
    have e : (a : Int) = b := by simpa [kMk] using h
    rw [show a = b by omega]
  | .is a, .is b, h => by
    have e : a.1 = b.1 := by simpa [kMk] using h
    rw [Subtype.ext e]
  | .any a, .is b, h => by
    exact absurd (Sum.inr.inj (List.cons.inj h).1) (by decide)
  | .is a, .any b, h => by
    exact absurd (Sum.inr.inj (List.cons.inj h).1) (by decide)
def tNm (n : Nm) : Ty := tSt n.1
def tVl (v : Vl) : Ty := tKy v.1
def tNt (n : Nat) : Ty := tIn (n : Int)
def tRow (r : Row) : Ty := tTu (r.map tVl)
def tMk (m : Mark) : Ty := tKs (kMk m)
def tMs (ms : List Mark) : Ty := tTu (ms.map tMk)
def tLn (l : Line) : Ty := tTu [tNm l.1, tMs l.2]
def tLns (ls : List Line) : Ty := tTu (ls.map tLn)
def tSh (s : Sheet) : Ty := tTu [tMs s.1, tLns s.2]
def tTab (t : Tab) : Ty := tTu [tNm t.1, tNt t.2.1, tTu (t.2.2.map tRow)]
def tBk (b : Book) : Ty := tTu (b.map tTab)
theorem tRow_ks (r : Row) : tRow r = tKs (r.map (·.1)) := by
  unfold tRow
  show tTu _ = tTu _
  rw [List.map_map]
  rfl
theorem word_str {s : Str} (h : wordOk s = true) : PyData.strOk s = true := by
  unfold wordOk at h
  simp only [Bool.and_eq_true] at h
  obtain ⟨_, h⟩ := h
  unfold PyData.strOk
  rw [Array.all_eq_true] at h ⊢
  intro i hi
  have q := h i hi
  unfold letter at q
  simp only [Bool.and_eq_true, decide_eq_true_eq] at q ⊢
  omega
theorem val_key {k : Key} (h : valOk k = true) : kOk k = true := by
  cases k with
  | inl i => rfl
  | inr s => exact word_str h
theorem encVl : Enc Vl tVl (fun v => dKy v.1) 0 := ⟨fun v => isD_ky v.1, fun v => dt_ky (val_key v.2), fun a b => by
  rw [eqv_ky]
  exact decide_eq_decide.mpr ⟨Subtype.ext, fun h => by rw [h]⟩⟩
theorem encNm : Enc Nm tNm (fun v => .str v.1) 0 := ⟨fun v => isD_st, fun v => dt_str (word_str v.2), fun a b => by
  have := eqv_ky (.inr a.1) (.inr b.1)
  rw [show PyData.eqv (.str a.1) (.str b.1) = _ from this]
  exact decide_eq_decide.mpr ⟨fun h => Subtype.ext (Sum.inr.inj h), fun h => by rw [h]⟩⟩
theorem encNt : Enc Nat tNt (fun n => .int (n : Int)) 0 := ⟨fun v => isD_in, fun v => dt_int, fun a b => by
  have := eqv_ky (.inl (a : Int)) (.inl (b : Int))
  rw [show PyData.eqv (.int (a : Int)) (.int (b : Int)) = _ from this]
  exact decide_eq_decide.mpr ⟨fun h => by have := Sum.inl.inj h; omega, fun h => by rw [h]⟩⟩
theorem encIn : Enc Int tIn (fun n => .int n) 0 := ⟨fun v => isD_in, fun v => dt_int, fun a b => by
  have := eqv_ky (.inl a) (.inl b)
  rw [show PyData.eqv (.int a) (.int b) = _ from this]
  exact decide_eq_decide.mpr ⟨fun h => Sum.inl.inj h, fun h => by rw [h]⟩⟩
theorem encRow : Enc Row tRow (fun r => .tuple (r.map fun v => dKy v.1)) 1 := encVl.tup
theorem encMk : Enc Mark tMk (fun m => dKs (kMk m)) 1 := ⟨fun m => isD_ks _, fun m => dt_ks (fun k hk => by
  cases m with
  | any j =>
    simp only [kMk, List.mem_cons, List.not_mem_nil, or_false] at hk
    rcases hk with rfl | rfl
    · decide +kernel
    · rfl
  | is v =>
    simp only [kMk, List.mem_cons, List.not_mem_nil, or_false] at hk
    rcases hk with rfl | rfl
    · decide +kernel
    · exact val_key v.2), fun a b => by
  rw [eqv_ks]
  exact decide_eq_decide.mpr ⟨kMk_inj, fun h => by rw [h]⟩⟩
theorem encMs : Enc (List Mark) tMs (fun ms => .tuple (ms.map fun m => dKs (kMk m))) 2 := encMk.tup
theorem encLn : Enc Line tLn (fun l => .tuple [.str l.1.1, .tuple (l.2.map fun m => dKs (kMk m))]) 3 := (encNm.mono (by decide)).pair encMs

/-! ### the module -/
/-- the module's names: built-ins are free, constants stand -/
structure Gb (g : Gc) : Prop where
  len : g.mg "len" = none
  tuple : g.mg "tuple" = none
  list : g.mg "list" = none
  all : g.mg "all" = none
  zip : g.mg "zip" = none
  range : g.mg "range" = none
  enumerate : g.mg "enumerate" = none
  isinstance : g.mg "isinstance" = none
  int : g.mg "int" = none
  str : g.mg "str" = none
  bool : g.mg "bool" = none
  sorted : g.mg "sorted" = none
  set : g.mg "set" = none
  dict : g.mg "dict" = none
  min : g.mg "min" = none
  ANY : ∃ t, g.mg "ANY" = some (.str "any" t)
  IS : ∃ t, g.mg "IS" = some (.str "is" t)
  LETTERS : ∃ t, g.mg "LETTERS" = some (.str "abcdefghijklmnopqrstuvwxyz" t)
  GREATEST : ∃ t, g.mg "GREATEST" = some (.int 1000000000 t)
  WIDE : ∃ t, g.mg "WIDE" = some (.int 3 t)
  ROWS : ∃ t, g.mg "ROWS" = some (.int 6 t)
  TABLES : ∃ t, g.mg "TABLES" = some (.int 3 t)
  MANY : ∃ t, g.mg "MANY" = some (.int 3 t)
  VALUES : ∃ t, g.mg "VALUES" = some (.int 18 t)
  NAMED : ∃ t, g.mg "NAMED" = some (.int 3 t)
  LONGEST : ∃ t, g.mg "LONGEST" = some (.int 8 t)
variable {g : Gc}
theorem boot_int' : bootBuiltins ("int" : Str) = some (.type "int") := by decide +kernel
theorem boot_str' : bootBuiltins ("str" : Str) = some (.type "str") := by decide +kernel
theorem boot_bool' : bootBuiltins ("bool" : Str) = some (.type "bool") := by decide +kernel
section
variable {l : Lc} {M : Md} {G : List Slot} {p pos : Pos} {x : Str} {a b e tg : Expr} {t u : Ty}
theorem x_int0 {i : Int} (h : ∃ t, g.mg x = some (.int i t)) (hg : l.sc.names.lookup x = some .globalImplicit := by rfl) (hd : (x == ("__debug__" : Str)) = false := by decide) : XE g l M G (.Name x p) (tIn i) := by
  obtain ⟨t, h⟩ := h
  exact x_glob h ⟨t, rfl⟩ hg hd
theorem x_str0 {i : Str} (h : ∃ t, g.mg x = some (.str i t)) (hg : l.sc.names.lookup x = some .globalImplicit := by rfl) (hd : (x == ("__debug__" : Str)) = false := by decide) : XE g l M G (.Name x p) (tSt i) := by
  obtain ⟨t, h⟩ := h
  exact x_glob h ⟨t, rfl⟩ hg hd
theorem x_ty (h : XE g l M G e t) (q : t = u) : XE g l M G e u := by rw [← q]; exact h
theorem xi_str {s : Str} (h : XE g l M G e (tSt s)) : XI g l M G tg e (s.cps.toList.map fun c => tSt (sgn c)) := fun X A => convI (pi_str (h X A)) fun σ H R ⟨S, pr, q⟩ => tE.step pr fun v S1 H1 q1 p1 h1 => by
  cases h1
  exact ⟨s, rfl, q _ S1 H1 q1 walk_str⟩
theorem x_inSign {c : Nat} {z : Str} (ha : XE g l M G a (tSt (sgn c))) (hb : XE g l M G b (tSt z)) (hm : behindInMarks .In b = false := by first | exact nomark _ | rfl) : XE g l M G (.Compare a [.In] [b] pos) (tBl (decide (c ∈ z.cps.toList))) :=
  x_cmp (fun X A => op_in_sign) (fun S H v w Q e hx hy k => by
    cases hx
    cases hy
    exact ⟨c, z, rfl, rfl, k _ S H (Gr.refl e) rfl⟩) ha hb hm
end
def isT : Key → Bool
  | .inl _ => false
  | .inr _ => true
theorem letters_in {c : Nat} (h : letter c = true) : c ∈ ("abcdefghijklmnopqrstuvwxyz" : Str).cps.toList := by
  have key : ∀ c, c < 123 → letter c = true → c ∈ ("abcdefghijklmnopqrstuvwxyz" : Str).cps.toList := by decide +kernel
  refine key c ?_ h
  unfold letter at h
  simp only [Bool.and_eq_true, decide_eq_true_eq] at h
  omega
theorem hb1 {x : Str} {st : Stmt} {p1 : Str} (h : ∀ (kV doc pm : Value) (an : Option Addr) (cdv ct : Value) (u : Value), bindArgs (PySem.W.fnOf x x (defArgs st) (defBody st) (defScope st) .none kV doc pm an cdv ct) ⟨[u], []⟩ = pure ([p1].zip [u])) :
    ∀ (kV doc pm : Value) (an : Option Addr) (cdv ct : Value) (us : List Value), us.length = [p1].length → bindArgs (PySem.W.fnOf x x (defArgs st) (defBody st) (defScope st) .none kV doc pm an cdv ct) ⟨us, []⟩ = pure ([p1].zip us) := fun a b c d e f us hl => match us, hl with | [u], _ => h a b c d e f u
end Z
end

section
/-! T1: is_whole .. are_risen. -/
namespace Z
open PySem PySem.Spec L2
variable {g : Gc}
theorem ok_is_whole (b : Gb g) (F : Df g "is_whole" (top 14)) : Fn g "is_whole" 1 (Spp (fun k : Key => [tKy k]) (fun k => tBl (!isT k))) := by
  refine fn_mk (N := ["thing"]) (ps := ["thing"]) F ⟨rfl, rfl, rfl, by decide +kernel, rfl, by decide +kernel, by decide +kernel⟩ (fun _ => rfl) (by decide) (hb1 fun _ _ _ _ _ _ _ => rfl) (fun _ _ _ h => h) fun k M S_0 H_0 _ => ?_
  have hv : ∀ {p : Pos}, XE g ⟨["thing"], defScope (top 14), 0, fun _ => true⟩ M ((List.map Slot.ty [tKy k]) ++ []) (.Name "thing" p) (tKy k) := x_var 0
  cases k with
  | inl i => exact xb_rt' (x_andB (x := true) (y := true) (x_isi hv tag_in (by decide +kernel) b.isinstance b.int boot_int') fun _ => x_one (x_notB (x := false) (x_isi hv tag_in (by decide +kernel) b.isinstance b.bool boot_bool')))
  | inr s => exact xb_rt' (x_andB (x := false) (y := true) (x_isi hv tag_st (by decide +kernel) b.isinstance b.int boot_int') fun h => nomatch h)
theorem ok_is_word (b : Gb g) (F : Df g "is_word" (top 15)) : Fn g "is_word" 1 (Spp (fun v : Vl => [tVl v]) (fun v => tBl (isT v.1))) := by
  refine fn_mk (N := ["thing", "sign"]) (ps := ["thing"]) F ⟨rfl, rfl, rfl, by decide +kernel, rfl, by decide +kernel, by decide +kernel⟩ (fun _ => rfl) (by decide) (hb1 fun _ _ _ _ _ _ _ => rfl) (fun _ _ _ h => h) fun k M S_0 H_0 _ => ?_
  have hv : ∀ {p : Pos}, XE g ⟨["thing", "sign"], defScope (top 15), 0, fun _ => true⟩ M ((List.map Slot.ty [tVl k]) ++ [.unk]) (.Name "thing" p) (tKy k.1) := x_var 0
  obtain ⟨k, hk⟩ := k
  cases k with
  | inl i => exact xb_when (xw_t (xw_orB (x := true) (y := true) (xt_notB (x := false) (xt_bl (x_isi hv tag_in (by decide +kernel) b.isinstance b.str boot_str'))) fun h => nomatch h)) (fun _ => xb_rt x_bl fun _ _ h => h) fun h => nomatch h
  | inr s =>
    have hw := hk
    unfold valOk wordOk at hw
    simp only [Bool.and_eq_true, decide_eq_true_eq] at hw
    obtain ⟨⟨h1, h2⟩, h3⟩ := hw
    have hl : s.length = s.cps.size := rfl
    refine xb_when (xw_t (xw_orB (x := false) (y := false) (xt_notB (x := true) (xt_bl (x_isi hv tag_st (by decide +kernel) b.isinstance b.str boot_str'))) fun _ => xw_or1 (xt_notB (x := true) (xt_is (xt_lele x_int (x_lenS hv (by omega) b.len) (x_int0 b.LONGEST)) ?_)))) (fun h => nomatch h) fun _ => ?_
    · rw [hl]; exact decide_eq_true ⟨by omega, by omega⟩
    · refine xb_rt (x_all (bs := s.cps.toList.map fun _ => true) ?_ b.all) ?_
      · rw [List.map_map]
        refine x_lcA (own := [("sign", 1)]) (vs := [1]) (T := fun c => tSt (sgn c)) (U := fun _ => tBl true) (xi_str hv) rfl (blkOk_by (by decide +kernel)) (by rw [Array.length_toList]; omega) (fun c hc => xg_name 1) fun c hc => ?_
        have lt : letter c = true := by
          rw [Array.all_eq_true] at h3
          obtain ⟨i, hi, rfl⟩ := List.getElem_of_mem hc
          rw [Array.getElem_toList]
          exact h3 i (by rw [Array.length_toList] at hi; exact hi)
        exact x_is (x_inSign (x_var 1) (x_str0 b.LETTERS)) (by rw [decide_eq_true (letters_in lt)])
      · intro S v h
        rw [show (List.map (fun _ => true) s.cps.toList).all id = true by rw [List.all_eq_true]; intro x hx; obtain ⟨_, _, rfl⟩ := List.mem_map.mp hx; rfl] at h
        exact h
theorem ok_is_value (b : Gb g) (F : Df g "is_value" (top 17)) (F1 : Fn g "is_whole" 1 (Spp (fun k : Key => [tKy k]) (fun k => tBl (!isT k)))) (F2 : Fn g "is_word" 1 (Spp (fun v : Vl => [tVl v]) (fun v => tBl (isT v.1)))) : Fn g "is_value" 2 (Spp (fun v : Vl => [tVl v]) (fun v => tBl true)) := by
  refine fn_mk (N := ["thing"]) (ps := ["thing"]) F ⟨rfl, rfl, rfl, by decide +kernel, rfl, by decide +kernel, by decide +kernel⟩ (fun _ => rfl) (by decide) (hb1 fun _ _ _ _ _ _ _ => rfl) (fun _ _ _ h => h) fun k M S_0 H_0 _ => ?_
  have hv : ∀ {p : Pos}, XE g ⟨["thing"], defScope (top 17), 1, fun _ => true⟩ M ((List.map Slot.ty [tVl k]) ++ []) (.Name "thing" p) (tVl k) := x_var 0
  have c1 : ∀ {p p1 q : Pos}, XE g ⟨["thing"], defScope (top 17), 1, fun _ => true⟩ M ((List.map Slot.ty [tVl k]) ++ []) (.Call (.Name "is_word" p) [.Name "thing" p1] [] q) (tBl (isT k.1)) := x_callI F2 k (xa_1 hv) trivial
  have c2 : ∀ {p p1 q : Pos}, XE g ⟨["thing"], defScope (top 17), 1, fun _ => true⟩ M ((List.map Slot.ty [tVl k]) ++ []) (.Call (.Name "is_whole" p) [.Name "thing" p1] [] q) (tBl (!isT k.1)) := x_callI F1 k.1 (xa_1 hv) trivial
  obtain ⟨k, hk⟩ := k
  cases k with
  | inr s => exact xb_rt' (x_orB (x := true) (y := true) c1 fun h => nomatch h)
  | inl i =>
    have hw := hk
    unfold valOk at hw
    simp only [Bool.and_eq_true, decide_eq_true_eq] at hw
    exact xb_rt' (x_orB (x := false) (y := true) c1 fun _ => x_one (x_andB (x := true) (y := true) c2 fun _ => x_one (x_is (x_lele x_int hv (x_int0 b.GREATEST)) (by rw [decide_eq_true ⟨by omega, by omega⟩]))))
end Z
end

section
/-! T2: keys of values and rows. -/
namespace Z
open PySem PySem.Spec L2 PySem.W ZL
variable {g : Gc}
def vk (v : Vl) : List Key := match v.1 with
  | .inl i => [.inl 0, .inl i, .inr ""]
  | .inr s => [.inl 1, .inl 0, .inr s]
def tVk (v : Vl) : Ty := tKs (vk v)
def dVk (v : Vl) : PyData := dKs (vk v)
theorem isD_vk (v : Vl) : isD (tVk v) (dVk v) := isD_ks _
theorem vk_inj {v w : Vl} (h : vk v = vk w) : v = w := by
  obtain ⟨v, hv⟩ := v
  obtain ⟨w, hw⟩ := w
  apply Subtype.ext
  cases v with
  | inl i => cases w with
    | inl j => simp only [vk, List.cons.injEq, and_true, true_and] at h; exact h
    | inr t => simp [vk] at h
  | inr s => cases w with
    | inl j => simp [vk] at h
    | inr t => simp only [vk, List.cons.injEq, and_true, true_and] at h; exact h
theorem dt_vk (v : Vl) : Dt (dVk v) 1 := dt_ks fun k hk => by
  obtain ⟨v, hv⟩ := v
  have hw := val_key hv
  cases v with
  | inl i =>
    simp only [vk, List.mem_cons, List.not_mem_nil, or_false] at hk
    rcases hk with rfl | rfl | rfl
    · rfl
    · rfl
    · decide +kernel
  | inr s =>
    simp only [vk, List.mem_cons, List.not_mem_nil, or_false] at hk
    rcases hk with rfl | rfl | rfl
    · rfl
    · rfl
    · exact hw
theorem eqv_vk (v w : Vl) : PyData.eqv (dVk v) (dVk w) = decide (v = w) := by
  unfold dVk
  rw [eqv_ks]
  exact decide_eq_decide.mpr ⟨vk_inj, fun h => by rw [h]⟩
def dRk (r : Row) : PyData := .list (r.map dVk)
def tRk (r : Row) : Ty := tLs (r.map tVk)
theorem isD_rk (r : Row) : isD (tRk r) (dRk r) := isD_ls (isDs_map isD_vk r)
theorem ok_value_key (b : Gb g) (F : Df g "value_key" (top 19)) : Fn g "value_key" 1 (Spp (fun v : Vl => [tVl v]) (fun v => tVk v)) := by
  refine fn_mk (N := ["value"]) (ps := ["value"]) F ⟨rfl, rfl, rfl, by decide +kernel, rfl, by decide +kernel, by decide +kernel⟩ (fun _ => rfl) (by decide) (hb1 fun _ _ _ _ _ _ _ => rfl) (fun _ _ _ h => h) fun k M S_0 H_0 _ => ?_
  have hv : ∀ {p : Pos}, XE g ⟨["value"], defScope (top 19), 0, fun _ => true⟩ M ((List.map Slot.ty [tVl k]) ++ []) (.Name "value" p) (tVl k) := x_var 0
  obtain ⟨k, hk⟩ := k
  cases k with
  | inl i => exact xb_when (xt_bl (x := false) (x_isi hv tag_in (by decide +kernel) b.isinstance b.str boot_str')) (fun h => nomatch h) fun _ => xb_rt' (x_tup (xa_3 x_int hv x_str) (by show 3 ≤ 100; decide))
  | inr s => exact xb_when (xt_bl (x := true) (x_isi hv tag_st (by decide +kernel) b.isinstance b.str boot_str')) (fun _ => xb_rt (x_tup (xa_3 x_int x_int hv) (by show 3 ≤ 100; decide)) Sub.rfl') fun h => nomatch h
theorem ok_row_key (b : Gb g) (F : Df g "row_key" (top 20)) (F1 : Fn g "value_key" 1 (Spp (fun v : Vl => [tVl v]) (fun v => tVk v))) : Fn g "row_key" 2 (Spp (fun r : { r : Row // r.length ≤ 1000 } => [tRow r.1]) (fun r => tRk r.1)) := by
  refine fn_mk (N := ["row", "value"]) (ps := ["row"]) F ⟨rfl, rfl, rfl, by decide +kernel, rfl, by decide +kernel, by decide +kernel⟩ (fun _ => rfl) (by decide) (hb1 fun _ _ _ _ _ _ _ => rfl) (fun _ _ _ h => h) fun r M S_0 H_0 _ => ?_
  exact xb_rt' (x_lcA (own := [("value", 1)]) (vs := [1]) (T := tVl) (U := tVk) (xi_tup (x_var 0)) rfl (blkOk_by (by decide +kernel)) (by have := r.2; omega) (fun v _ => xg_name 1) fun v _ => x_callI F1 v (xa_1 (x_var 1)) trivial)
/-! comparing -/
theorem kin_vk (v w : Vl) : kin (dVk v) (dVk w) = true := by
  obtain ⟨v, hv⟩ := v
  obtain ⟨w, hw⟩ := w
  cases v <;> cases w <;> simp [dVk, dKs, vk, dKy, kin, kinAll, PyData.eqv]
theorem kinAll_map {α : Type} {d : α → PyData} (h : ∀ v w, PyData.eqv (d v) (d w) = false → kin (d v) (d w) = true) : ∀ xs ys : List α, kinAll (xs.map d) (ys.map d) = true
  | [], [] => by simp [kinAll]
  | [], _ :: _ => by simp [kinAll]
  | _ :: _, [] => by simp [kinAll]
  | x :: xs, y :: ys => by
    rw [List.map_cons, List.map_cons, kinAll_cons]
    cases e : PyData.eqv (d x) (d y) with
    | true => rw [if_pos rfl]; exact kinAll_map h xs ys
    | false => rw [if_neg Bool.false_ne_true]; exact h x y e
theorem kin_rk (r s : Row) : kin (dRk r) (dRk s) = true := by
  unfold dRk
  simp only [kin]
  exact kinAll_map (fun v w _ => kin_vk v w) r s
theorem dt_rk (r : Row) : Dt (dRk r) 2 := dt_lst fun d hd => by
  obtain ⟨v, _, rfl⟩ := List.mem_map.mp hd
  exact dt_vk v
theorem kinL_rk (xs : List Row) : KinL (xs.map dRk) := ⟨fun d hd => by
  obtain ⟨r, _, rfl⟩ := List.mem_map.mp hd
  exact ⟨_, rfl⟩, fun d hd => by
  obtain ⟨r, _, rfl⟩ := List.mem_map.mp hd
  exact (dt_rk r).lay, fun d hd d' hd' => by
  obtain ⟨r, _, rfl⟩ := List.mem_map.mp hd
  obtain ⟨s, _, rfl⟩ := List.mem_map.mp hd'
  exact kin_rk r s⟩
theorem alike_vk (v w : Vl) : alike (dVk v) (dVk w) = true := by
  obtain ⟨v, hv⟩ := v
  obtain ⟨w, hw⟩ := w
  cases v <;> cases w <;> simp [dVk, dKs, vk, dKy, alike, alikeAll]
theorem kinK_vk (xs : List Vl) : KinK (xs.map dVk) := ⟨fun d hd => by
  obtain ⟨v, _, rfl⟩ := List.mem_map.mp hd
  exact (dt_vk v).lay, .inr ⟨AllAlike.of alike_vk, Sortable.tuples fun v => by
  obtain ⟨v, hv⟩ := v
  cases v <;> exact ⟨_, _, rfl⟩⟩⟩
/-- list < list -/
def rLtK (K : PySem.W.Frag) : R2 := fun x y H Q => ∃ d d', Dp K H x d ∧ Dp K H y d' ∧ d.canLay0 = true ∧ d'.canLay0 = true ∧ kin d d' = true ∧ d.depth ≤ 60 ∧ Q (.bl (dataLt d d')) H
theorem op_ltK {X : Cx} (hu : X.A.units + 65 < cLine) : OpR X (compareOp .Lt) (rLtK X.K) := by
  intro pins s σ H x y v u Q I rx ry ⟨d, d', h1, h2, c1, c2, hk, hd, q⟩
  obtain ⟨as, r1⟩ := Dp.reads I d x v h1 rx
  obtain ⟨bs, r2⟩ := Dp.reads I d' y u h2 ry
  have hmin : X.A.units + min d.depth d'.depth < cLine := Nat.lt_of_le_of_lt (Nat.add_le_add_left (Nat.min_le_left _ _) _) (by omega)
  exact rc_kin d d' X.A s v u as bs r1 r2 c1 c2 hk hmin X.prog X.w _ _ ⟨.bl _, H, I, rfl, q⟩
theorem x_ltK {l : Lc} {M : Md} {G : List Slot} {a b : Expr} {pos : Pos} {t u : Ty} {d d' : PyData} (h1 : isD t d) (h2 : isD u d') (c1 : d.canLay0 = true) (c2 : d'.canLay0 = true) (hk : kin d d' = true) (hd : d.depth ≤ 60) (ha : XE g l M G a t) (hb : XE g l M G b u) : XE g l M G (.Compare a [.Lt] [b] pos) (tBl (dataLt d d')) :=
  x_cmp (f := rLtK g.K) (fun X A => by rw [← A.K]; exact op_ltK (units65 A)) (fun S H x y Q e hx hy k => ⟨d, d', h1 _ S H x e hx, h2 _ S H y e hy, c1, c2, hk, hd, k _ S H (Gr.refl e) rfl⟩) ha hb
theorem hb2 {x : Str} {st : Stmt} {p1 p2 : Str} (h : ∀ (kV doc pm : Value) (an : Option Addr) (cdv ct : Value) (u w : Value), bindArgs (PySem.W.fnOf x x (defArgs st) (defBody st) (defScope st) .none kV doc pm an cdv ct) ⟨[u, w], []⟩ = pure ([p1, p2].zip [u, w])) :
    ∀ (kV doc pm : Value) (an : Option Addr) (cdv ct : Value) (us : List Value), us.length = [p1, p2].length → bindArgs (PySem.W.fnOf x x (defArgs st) (defBody st) (defScope st) .none kV doc pm an cdv ct) ⟨us, []⟩ = pure ([p1, p2].zip us) := fun a b c d e f us hl => match us, hl with | [u, w], _ => h a b c d e f u w
theorem hb3 {x : Str} {st : Stmt} {p1 p2 p3 : Str} (h : ∀ (kV doc pm : Value) (an : Option Addr) (cdv ct : Value) (u w v : Value), bindArgs (PySem.W.fnOf x x (defArgs st) (defBody st) (defScope st) .none kV doc pm an cdv ct) ⟨[u, w, v], []⟩ = pure ([p1, p2, p3].zip [u, w, v])) :
    ∀ (kV doc pm : Value) (an : Option Addr) (cdv ct : Value) (us : List Value), us.length = [p1, p2, p3].length → bindArgs (PySem.W.fnOf x x (defArgs st) (defBody st) (defScope st) .none kV doc pm an cdv ct) ⟨us, []⟩ = pure ([p1, p2, p3].zip us) := fun a b c d e f us hl => match us, hl with | [u, w, v], _ => h a b c d e f u w v
theorem ok_row_less (b : Gb g) (F : Df g "row_less" (top 21)) (F1 : Fn g "row_key" 2 (Spp (fun r : { r : Row // r.length ≤ 1000 } => [tRow r.1]) (fun r => tRk r.1))) : Fn g "row_less" 3 (Spp (fun r : { r : Row × Row // r.1.length ≤ 1000 ∧ r.2.length ≤ 1000 } => [tRow r.1.1, tRow r.1.2]) (fun r => tBl (dataLt (dRk r.1.1) (dRk r.1.2)))) := by
  refine fn_mk (N := ["one", "other"]) (ps := ["one", "other"]) F ⟨rfl, rfl, rfl, by decide +kernel, rfl, by decide +kernel, by decide +kernel⟩ (fun _ => rfl) (by decide) (hb2 fun _ _ _ _ _ _ _ _ => rfl) (fun _ _ _ h => h) fun r M S_0 H_0 _ => ?_
  exact xb_rt' (x_ltK (isD_rk _) (isD_rk _) (dt_rk _).lay (dt_rk _).lay (kin_rk _ _) (Nat.le_trans (dt_rk _).dep (by decide)) (x_callI F1 ⟨r.1.1, r.2.1⟩ (xa_1 (x_var 0)) trivial) (x_callI F1 ⟨r.1.2, r.2.2⟩ (xa_1 (x_var 1)) trivial))
end Z
end

section
/-! T3: risen, values_risen, are_risen. -/
namespace Z
open PySem PySem.Spec L2 PySem.W ZL
variable {g : Gc}
def ksR (r : Row) : List Key := r.map (·.1)
theorem ksR_inj {a b : Row} (h : ksR a = ksR b) : a = b := by
  induction a generalizing b with
  | nil => cases b with
    | nil => rfl
    | cons _ _ => simp [ksR] at h
  | cons x a ih => cases b with
    | nil => simp [ksR] at h
    | cons y b =>
      have h1 := List.cons.inj h
      rw [Subtype.ext h1.1, ih h1.2]
/-- the keys of a dict, read as items -/
theorem keys_of {α κ : Type} {f : α → κ} (hi : ∀ {a b}, f a = f b → a = b) {xs : List α} : ∀ {ks : List κ}, (∀ k ∈ ks, k ∈ xs.map f) → ks.Nodup → (∀ x ∈ xs, f x ∈ ks) → ∃ r : List α, r.map f = ks ∧ r.Nodup ∧ ∀ x, x ∈ r ↔ x ∈ xs := by
  intro ks h1 h2 h3
  obtain ⟨r, hr⟩ : ∃ r : List α, r.map f = ks := by
    clear h2 h3
    induction ks with
    | nil => exact ⟨[], rfl⟩
    | cons k ks ih =>
      obtain ⟨r, hr⟩ := ih fun j hj => h1 j (List.mem_cons_of_mem _ hj)
      obtain ⟨x, _, hx⟩ := List.mem_map.mp (h1 k (List.mem_cons_self ..))
      exact ⟨x :: r, by rw [List.map_cons, hx, hr]⟩
  refine ⟨r, hr, ?_, fun x => ⟨fun h => ?_, fun h => ?_⟩⟩
  · rw [← hr] at h2
    exact (List.pairwise_map.mp h2).imp fun hne e => hne (congrArg f e)
  · have : f x ∈ ks := by rw [← hr]; exact List.mem_map_of_mem h
    obtain ⟨y, hy, e⟩ := List.mem_map.mp (h1 _ this)
    rw [← hi e]; exact hy
  · have := h3 x h
    rw [← hr] at this
    obtain ⟨y, hy, e⟩ := List.mem_map.mp this
    rw [← hi e]; exact hy
theorem build_of {α κ β : Type} [DecidableEq κ] {f : α → κ} {U : α → β} (hi : ∀ {a b}, f a = f b → a = b) (xs : List α) : ∃ r : List α, r.map f = (buildA f U xs).map (·.1) ∧ r.Nodup ∧ ∀ x, x ∈ r ↔ x ∈ xs := by
  obtain ⟨k1, k2⟩ := buildA_keys (key := f) (val := U) xs
  exact keys_of hi (fun k hk => (k2 k).mp hk) k1 fun x hx => (k2 _).mpr (List.mem_map_of_mem hx)
abbrev Rows := { xs : List Row // xs.length ≤ 50000 ∧ ∀ r ∈ xs, r.length ≤ 1000 }
def Same {α : Type} (xs r : List α) : Prop := r.Nodup ∧ ∀ x, x ∈ r ↔ x ∈ xs
def tRows (r : List Row) : Ty := tTu (r.map tRow)
theorem ok_risen (b : Gb g) (F : Df g "risen" (top 22)) (F1 : Fn g "row_key" 2 (Spp (fun r : { r : Row // r.length ≤ 1000 } => [tRow r.1]) (fun r => tRk r.1))) : Fn g "risen" 4 (Spp (fun xs : Rows => [tLs (xs.1.map tRow)]) (fun xs => tEx (Same xs.1) tRows)) := by
  refine fn_mk (N := ["rows", "once", "row"]) (ps := ["rows"]) F ⟨rfl, rfl, rfl, by decide +kernel, rfl, by decide +kernel, by decide +kernel⟩ (fun _ => rfl) (by decide) (hb1 fun _ _ _ _ _ _ _ => rfl) (fun _ _ _ h => h) fun xs M S_0 H_0 _ => ?_
  obtain ⟨xs, h1, h2⟩ := xs
  refine xb_setC 1 (xsc_T 1 (own := [("row", 2)]) (vs := [2]) (T := tRow) (U := fun _ => tBl true) (key := ksR) rfl (xi_list (x_var 0)) (blkOk_by (by decide +kernel)) h1 (fun D r _ => xg_name 2) (fun D r _ => by rw [← show tRow r = tKs (ksR r) from tRow_ks r]; exact x_var 2) (fun D r _ => x_bl)) ?_
  obtain ⟨r, e1, e2, e3⟩ := build_of (U := fun _ : Row => tBl true) ksR_inj xs
  have et : (buildA ksR (fun _ : Row => tBl true) xs).map (fun q => tKs q.1) = r.map tRow := by
    rw [show (buildA ksR (fun _ : Row => tBl true) xs).map (fun q => tKs q.1) = ((buildA ksR (fun _ : Row => tBl true) xs).map (·.1)).map tKs by rw [List.map_map]; rfl, ← e1, List.map_map]
    exact List.map_congr_left fun x _ => (tRow_ks x).symm
  refine xb_rt (x_tupL (x_sortF F1 (by decide) (Ky := tRk) (kd := dRk) (fun x hx => ⟨⟨x, h2 x ((e3 x).mp hx)⟩, trivial, rfl, Sub.rfl'⟩) (fun x _ => isD_rk x) (kinL_rk r).k (fun x _ => Nat.le_trans (dt_rk x).dep (by decide)) (x_ty (x_lstD (x_var 1) b.list) (by rw [et])) b.sorted) b.tuple) fun S v h => ?_
  exact ⟨r.mergeSort (dLe dRk), ⟨(List.mergeSort_perm _ _).nodup_iff.mpr e2, fun x => by rw [(List.mergeSort_perm _ _).mem_iff, e3]⟩, h⟩
def tSeq (b : Bool) (ts : List Ty) : Ty := if b = true then tLs ts else tTu ts
theorem xi_seq {l : Lc} {M : Md} {G : List Slot} {tg e : Expr} {ts : List Ty} {b : Bool} (h : XE g l M G e (tSeq b ts)) : XI g l M G tg e ts := by
  cases b with
  | true => exact xi_list h
  | false => exact xi_tup h
def tVls (r : List Vl) : Ty := tTu (r.map tVl)
theorem ok_values_risen (b : Gb g) (F : Df g "values_risen" (top 23)) (F1 : Fn g "value_key" 1 (Spp (fun v : Vl => [tVl v]) (fun v => tVk v))) : Fn g "values_risen" 3 (Spp (fun q : Bool × { xs : List Vl // xs.length ≤ 1000 } => [tSeq q.1 (q.2.1.map tVl)]) (fun q => tEx (Same q.2.1) tVls)) := by
  refine fn_mk (N := ["values", "once", "value"]) (ps := ["values"]) F ⟨rfl, rfl, rfl, by decide +kernel, rfl, by decide +kernel, by decide +kernel⟩ (fun _ => rfl) (by decide) (hb1 fun _ _ _ _ _ _ _ => rfl) (fun _ _ _ h => h) fun q M S_0 H_0 _ => ?_
  obtain ⟨bb, xs, h1⟩ := q
  refine xb_setC 1 (xsc_K 1 (own := [("value", 2)]) (vs := [2]) (T := tVl) (U := fun _ => tBl true) (key' := fun v : Vl => v.1) rfl (xi_seq (x_var 0)) (blkOk_by (by decide +kernel)) (Nat.le_trans h1 (by decide)) (fun D r _ => xg_name 2) (fun D r _ => x_var 2) (fun D r _ => x_bl)) ?_
  obtain ⟨r, e1, e2, e3⟩ := build_of (f := fun v : Vl => v.1) (U := fun _ : Vl => tBl true) (fun h => Subtype.ext h) xs
  have et : (buildA (fun v : Vl => v.1) (fun _ : Vl => tBl true) xs).map (fun q => tKy q.1) = r.map tVl := by
    rw [show (buildA (fun v : Vl => v.1) (fun _ : Vl => tBl true) xs).map (fun q => tKy q.1) = ((buildA (fun v : Vl => v.1) (fun _ : Vl => tBl true) xs).map (·.1)).map tKy by rw [List.map_map]; rfl, ← e1, List.map_map]
    rfl
  refine xb_rt (x_tupL (x_sortF F1 (by decide) (Ky := tVk) (kd := dVk) (fun x hx => ⟨x, trivial, rfl, Sub.rfl'⟩) (fun x _ => isD_vk x) (kinK_vk r) (fun x _ => Nat.le_trans (dt_vk x).dep (by decide)) (x_ty (x_lstDK (x_var 1) b.list) (by rw [et])) b.sorted) b.tuple) fun S v h => ?_
  exact ⟨r.mergeSort (dLe dVk), ⟨(List.mergeSort_perm _ _).nodup_iff.mpr e2, fun x => by rw [(List.mergeSort_perm _ _).mem_iff, e3]⟩, h⟩
theorem zipT_map {α β : Type} {T : α → Ty} {U : β → Ty} (xs : List α) (ys : List β) : zipT (xs.map T) (ys.map U) = (xs.zip ys).map fun q => tTu [T q.1, U q.2] := by
  unfold zipT
  rw [List.zip_map, List.map_map]
  rfl
def Up (rs : List Row) : Prop := rs.Pairwise fun a b => dataLt (dRk a) (dRk b) = true
theorem up_next {rs : List Row} (h : Up rs) {q : Row × Row} (hq : q ∈ rs.zip (rs.drop 1)) : dataLt (dRk q.1) (dRk q.2) = true := by
  obtain ⟨i, hi⟩ := List.mem_iff_getElem?.mp hq
  rw [List.getElem?_zip_eq_some, List.getElem?_drop] at hi
  obtain ⟨h1, e1⟩ := List.getElem?_eq_some_iff.mp hi.1
  obtain ⟨h2, e2⟩ := List.getElem?_eq_some_iff.mp hi.2
  rw [← e1, ← e2]
  exact List.pairwise_iff_getElem.mp h i (1 + i) h1 h2 (by omega)
theorem ok_are_risen (b : Gb g) (F : Df g "are_risen" (top 24)) (F1 : Fn g "row_less" 3 (Spp (fun r : { r : Row × Row // r.1.length ≤ 1000 ∧ r.2.length ≤ 1000 } => [tRow r.1.1, tRow r.1.2]) (fun r => tBl (dataLt (dRk r.1.1) (dRk r.1.2))))) : Fn g "are_risen" 4 (Spp (fun xs : { xs : List Row // Up xs ∧ xs.length ≤ 1000 ∧ ∀ r ∈ xs, r.length ≤ 1000 } => [tRows xs.1]) (fun xs => tBl true)) := by
  refine fn_mk (N := ["rows", "one", "other"]) (ps := ["rows"]) F ⟨rfl, rfl, rfl, by decide +kernel, rfl, by decide +kernel, by decide +kernel⟩ (fun _ => rfl) (by decide) (hb1 fun _ _ _ _ _ _ _ => rfl) (fun _ _ _ h => h) fun xs M S_0 H_0 _ => ?_
  obtain ⟨xs, h0, h1, h2⟩ := xs
  have hz : (xs.zip (xs.drop 1)).length ≤ 1000 := by rw [List.length_zip]; omega
  refine xb_rt (x_all (bs := (xs.zip (xs.drop 1)).map fun _ => true) ?_ b.all) fun S v h => ?_
  · rw [List.map_map]
    refine x_lcA (own := [("one", 1), ("other", 2)]) (vs := [1, 2]) (T := fun q : Row × Row => tTu [tRow q.1, tRow q.2]) (U := fun _ => tBl true) (G1 := fun q => [.ty (tRows xs), .ty (tRow q.1), .ty (tRow q.2)]) ?_ rfl (blkOk_by (by decide +kernel)) (by omega) (fun q hq => xg_tup (xgs_cons (xg_name 1) (xgs_cons (xg_name 2) xgs_nil))) fun q hq => ?_
    · rw [← zipT_map, List.map_drop]
      exact xi_zipT (x_var 0) (x_slT_from (k := 1) (x_var 0) x_int) b.zip
    · have m1 := (List.of_mem_zip hq).1
      have m2 := List.mem_of_mem_drop (List.of_mem_zip hq).2
      exact x_is (x_callI F1 ⟨q, h2 _ m1, h2 _ m2⟩ (xa_2 (x_var 1) (x_var 2)) trivial) (by rw [up_next h0 hq])
  · rw [show (List.map (fun _ => true) (xs.zip (xs.drop 1))).all id = true by rw [List.all_eq_true]; intro x hx; obtain ⟨_, _, rfl⟩ := List.mem_map.mp hx; rfl] at h
    exact h
end Z
end

section
/-! T4: rows, tables, books are what they are. -/
namespace Z
open PySem PySem.Spec L2 PySem.W ZL
variable {g : Gc}
theorem all_true {α : Type} (xs : List α) : (xs.map fun _ => true).all id = true := by
  rw [List.all_eq_true]
  intro x hx
  obtain ⟨_, _, rfl⟩ := List.mem_map.mp hx
  rfl
section
variable {l : Lc} {M : Md} {G : List Slot} {pos p p1 : Pos} {a : Expr} {α : Type}
theorem x_isB {x y : Bool} (h : XE g l M G a (tBl x)) (q : x = y) : XE g l M G a (tBl y) := by rw [← q]; exact h
/-- all([..]), every one true -/
theorem x_allT {xs : List α} (h : XE g l M G a (tLs (xs.map fun _ => tBl true))) (hm : g.mg "all" = none) (hg : l.sc.names.lookup ("all" : Str) = some .globalImplicit := by rfl) (hs : ∀ env, starEach [a] env = (false, eval a env) :: starEach [] env := by intro _; rfl) (hpl : ∀ env, (backTo pos (starEach [] env)).any (·.1) = false := by intro _; rfl) : XE g l M G (.Call (.Name "all" p) [a] [] pos) (tBl true) := by
  have h2 := x_all (bs := xs.map fun _ => true) (p := p) (pos := pos) (x_ty h (by rw [List.map_map]; rfl)) hm hg hs hpl
  rw [all_true] at h2
  exact h2
end
abbrev Row3 := { r : Row // 1 ≤ r.length ∧ r.length ≤ 3 }
abbrev FnVal (g : Gc) := Fn g "is_value" 2 (Spp (fun v : Vl => [tVl v]) (fun v => tBl true))
theorem ok_is_row (b : Gb g) (F : Df g "is_row" (top 18)) (F1 : FnVal g) : Fn g "is_row" 3 (Spp (fun r : Row3 => [tRow r.1]) (fun r => tBl true)) := by
  refine fn_mk (N := ["thing", "value"]) (ps := ["thing"]) F ⟨rfl, rfl, rfl, by decide +kernel, rfl, by decide +kernel, by decide +kernel⟩ (fun _ => rfl) (by decide) (hb1 fun _ _ _ _ _ _ _ => rfl) (fun _ _ _ h => h) fun r M S_0 H_0 _ => ?_
  obtain ⟨r, h1, h2⟩ := r
  exact xb_rt' (x_andB (x := true) (y := true) (x_isi (x_var 0) tag_tu (by decide +kernel) b.isinstance b.tuple boot_tuple') fun _ => x_andB (x := true) (y := true) (x_isB (x_lele x_int (x_lenT (x_var 0) b.len) (x_int0 b.WIDE)) (decide_eq_true (show (1 : Int) ≤ ((r.map tVl).length : Int) ∧ ((r.map tVl).length : Int) ≤ 3 by rw [List.length_map]; omega))) fun _ =>
    x_one (x_allT (xs := r) (x_lcA (own := [("value", 1)]) (vs := [1]) (T := tVl) (U := fun _ => tBl true) (xi_tup (x_var 0)) rfl (blkOk_by (by decide +kernel)) (by omega) (fun v _ => xg_name 1) fun v _ => x_callI F1 v (xa_1 (x_var 1)) trivial) b.all))
/-- rows of a table -/
structure RowsOk (n : Nat) (rs : List Row) : Prop where
  n1 : 1 ≤ n
  n3 : n ≤ 3
  few : rs.length ≤ 6
  len : ∀ r ∈ rs, r.length = n
  up : Up rs
abbrev Rws := { q : List Row × Nat // RowsOk q.2 q.1 }
abbrev FnAre (g : Gc) := Fn g "are_risen" 4 (Spp (fun xs : { xs : List Row // Up xs ∧ xs.length ≤ 1000 ∧ ∀ r ∈ xs, r.length ≤ 1000 } => [tRows xs.1]) (fun xs => tBl true))
theorem ok_are_rows (b : Gb g) (F : Df g "are_rows" (top 26)) (F1 : Fn g "is_row" 3 (Spp (fun r : Row3 => [tRow r.1]) (fun r => tBl true))) (F2 : FnAre g) : Fn g "are_rows" 5 (Spp (fun q : Rws => [tRows q.1.1, tNt q.1.2]) (fun r => tBl true)) := by
  refine fn_mk (N := ["thing", "columns", "row"]) (ps := ["thing", "columns"]) F ⟨rfl, rfl, rfl, by decide +kernel, rfl, by decide +kernel, by decide +kernel⟩ (fun _ => rfl) (by decide) (hb2 fun _ _ _ _ _ _ _ _ => rfl) (fun _ _ _ h => h) fun q M S_0 H_0 _ => ?_
  obtain ⟨⟨rs, n⟩, h⟩ := q
  have hf := h.few
  refine xb_when (xw_t (xw_orB (x := false) (y := false) (xt_notB (x := true) (xt_bl (x_isi (x_var 0) tag_tu (by decide +kernel) b.isinstance b.tuple boot_tuple'))) fun _ => xw_or1 (xt_notB (x := true) (xt_bl (x_allT (xs := rs) (x_lcA (own := [("row", 2)]) (vs := [2]) (T := tRow) (U := fun _ => tBl true) (xi_tup (x_var 0)) rfl (blkOk_by (by decide +kernel)) (by show rs.length ≤ _; have : rs.length ≤ 6 := hf; omega) (fun r _ => xg_name 2) fun r hr => ?_) b.all))))) (fun h => nomatch h) fun _ => ?_
  · have e : r.length = n := h.len r hr
    have h1 : 1 ≤ n := h.n1
    have h3 : n ≤ 3 := h.n3
    exact x_andB (x := true) (y := true) (x_callI F1 ⟨r, by omega, by omega⟩ (xa_1 (x_var 2)) trivial) fun _ => x_one (x_isB (x_eqE encIn (x_lenT (x_var 2) b.len) (x_var 1)) (decide_eq_true (show ((r.map tVl).length : Int) = (n : Int) by rw [List.length_map, e])))
  · exact xb_rt' (x_callI F2 ⟨rs, h.up, by show rs.length ≤ _; have : rs.length ≤ 6 := hf; omega, fun r hr => by
      have e : r.length = n := h.len r hr
      have h3 : n ≤ 3 := h.n3
      omega⟩ (xa_1 (x_var 0)) trivial)
abbrev Tb := { t : Tab // RowsOk t.2.1 t.2.2 }
abbrev FnWord (g : Gc) := Fn g "is_word" 1 (Spp (fun v : Vl => [tVl v]) (fun v => tBl (isT v.1)))
abbrev FnWhole (g : Gc) := Fn g "is_whole" 1 (Spp (fun k : Key => [tKy k]) (fun k => tBl (!isT k)))
def nmV (n : Nm) : Vl := ⟨.inr n.1, n.2⟩
theorem ok_is_table (b : Gb g) (F : Df g "is_table" (top 27)) (F1 : FnWord g) (F2 : FnWhole g) (F3 : Fn g "are_rows" 5 (Spp (fun q : Rws => [tRows q.1.1, tNt q.1.2]) (fun r => tBl true))) : Fn g "is_table" 6 (Spp (fun t : Tb => [tTab t.1]) (fun r => tBl true)) := by
  refine fn_mk (N := ["thing", "name", "columns", "rows"]) (ps := ["thing"]) F ⟨rfl, rfl, rfl, by decide +kernel, rfl, by decide +kernel, by decide +kernel⟩ (fun _ => rfl) (by decide) (hb1 fun _ _ _ _ _ _ _ => rfl) (fun _ _ _ h => h) fun t M S_0 H_0 _ => ?_
  obtain ⟨⟨n, c, rs⟩, h⟩ := t
  have h1 : 1 ≤ c := h.n1
  have h3 : c ≤ 3 := h.n3
  have hf : rs.length ≤ 6 := h.few
  refine xb_when (xw_t (xw_orB (x := false) (y := false) (xt_notB (x := true) (xt_bl (x_isi (x_var 0) tag_tu (by decide +kernel) b.isinstance b.tuple boot_tuple'))) fun _ => xw_or1 (xt_is (xt_neE encIn (x_lenT (x_var 0) b.len) x_int) (by exact rfl)))) (fun h => nomatch h) fun _ => ?_
  refine xb_asg (vs := [1, 2, 3]) (x_var 0) (xg_tup (xgs_cons (xg_name 1) (xgs_cons (xg_name 2) (xgs_cons (xg_name 3) xgs_nil)))) ?_
  refine xb_when (xw_t (xw_orB (x := false) (y := false) (xt_notB (x := true) (xt_bl (x_callI F1 (nmV n) (xa_1 (x_var 1)) trivial))) fun _ => xw_orB (x := false) (y := false) (xt_notB (x := true) (xt_bl (x_callI F2 (.inl (c : Int)) (xa_1 (x_var 2)) trivial))) fun _ => xw_or1 (xt_notB (x := true) (xt_is (xt_lele x_int (x_var 2) (x_int0 b.WIDE)) (decide_eq_true (show (1 : Int) ≤ (c : Int) ∧ (c : Int) ≤ 3 by omega)))))) (fun h => nomatch h) fun _ => ?_
  exact xb_rt' (x_andB (x := true) (y := true) (x_callI F3 ⟨(rs, c), h⟩ (xa_2 (x_var 3) (x_var 2)) trivial) fun _ => x_one (x_isB (x_le (x_lenT (x_var 3) b.len) (x_int0 b.ROWS)) (decide_eq_true (show ((rs.map tRow).length : Int) ≤ 6 by rw [List.length_map]; omega))))
def valsOf (b : Book) : List Vl := b.flatMap fun t => t.2.2.flatMap id
theorem ok_values_in (b : Gb g) (F : Df g "values_in" (top 28)) (F1 : Fn g "values_risen" 3 (Spp (fun q : Bool × { xs : List Vl // xs.length ≤ 1000 } => [tSeq q.1 (q.2.1.map tVl)]) (fun q => tEx (Same q.2.1) tVls))) : Fn g "values_in" 4 (Spp (fun k : { k : Book // (valsOf k).length ≤ 1000 } => [tBk k.1]) (fun k => tEx (Same (valsOf k.1)) tVls)) := by
  refine fn_mk (N := ["book", "name", "columns", "rows", "row", "value"]) (ps := ["book"]) F ⟨rfl, rfl, rfl, by decide +kernel, rfl, by decide +kernel, by decide +kernel⟩ (fun _ => rfl) (by decide) (hb1 fun _ _ _ _ _ _ _ => rfl) (fun _ _ _ h => h) fun k M S_0 H_0 _ => ?_
  obtain ⟨k, hk⟩ := k
  have e1 : (k.flatMap fun t => t.2.2.flatMap fun r => r.map tVl) = (valsOf k).map tVl := by
    unfold valsOf
    rw [List.map_flatMap]
    congr 1
    funext t
    rw [List.map_flatMap]
    rfl
  refine xb_rt' (x_callI F1 (true, ⟨valsOf k, hk⟩) (xa_1 (x_ty (x_lc3 (xs := k) (ys := fun t : Tab => t.2.2) (zs := fun r : Row => r) (own := [("name", 1), ("columns", 2), ("rows", 3), ("row", 4), ("value", 5)]) (vs := [1, 2, 3, 4, 5]) (vs1 := [4, 5]) (vs2 := [5]) (T := tTab) (T1 := tRow) (T2 := tVl) (U := tVl)
    (G1 := fun t => [.ty (tBk k), .ty (tNm t.1), .ty (tNt t.2.1), .ty (tRows t.2.2), .unk, .unk]) (G2 := fun t r => [.ty (tBk k), .ty (tNm t.1), .ty (tNt t.2.1), .ty (tRows t.2.2), .ty (tRow r), .unk]) (G3 := fun t r v => [.ty (tBk k), .ty (tNm t.1), .ty (tNt t.2.1), .ty (tRows t.2.2), .ty (tRow r), .ty (tVl v)])
    rfl (xi_tup (x_var 0)) (blkOk_by (by decide +kernel)) (fun D t _ => xg_tup (xgs_cons (xg_name 1) (xgs_cons (xg_name 2) (xgs_cons (xg_name 3) xgs_nil)))) (fun D t _ => xi_tup (x_var 3)) (fun D t _ r _ => xg_name 4) (fun D t _ r _ => xi_tup (x_var 4)) (fun D t _ r _ v _ => xg_name 5) (fun D t _ r _ v _ => x_var 5) (by decide) (by decide) ?_) ?_)) trivial)
  · rw [e1, List.length_map]
    omega
  · rw [e1]
    rfl
end Z
end

section
/-! T5: books. -/
namespace Z
open PySem PySem.Spec L2 PySem.W ZL
variable {g : Gc}
section
variable {ι : Type} {l : Lc} {M : Md} {G : List Slot} {pos p p1 : Pos} {a b e : Expr} {q : ι → Prop} {t u z : Ty}
theorem R2T.ex1 {f : R2} {T : ι → Ty} (h : ∀ i, q i → R2T f (T i) u z) : R2T f (tEx q T) u z := fun S H x y Q e ⟨i, hi, hx⟩ hy k => h i hi S H x y Q e hx hy k
theorem x_leX {n : ι → Int} {j : Int} (ha : XE g l M G a (tEx q fun i => tIn (n i))) (hb : XE g l M G b (tIn j)) (h : ∀ i, q i → n i ≤ j) : XE g l M G (.Compare a [.LtE] [b] pos) (tBl true) :=
  x_cmp (fun X A => op_le) (R2T.ex1 fun i hi => by
    have := R2T_B0 (f := fun i j => decide (i ≤ j)) (i := n i) (j := j)
    rw [decide_eq_true (h i hi)] at this
    exact this) ha hb
theorem x_lenX {f : ι → List Ty} (h : XE g l M G a (tEx q fun i => tTu (f i))) (hm : g.mg "len" = none) (hg : l.sc.names.lookup ("len" : Str) = some .globalImplicit := by rfl) (hs : ∀ env, starEach [a] env = (false, eval a env) :: starEach [] env := by intro _; rfl) (hpl : ∀ env, (backTo pos (starEach [] env)).any (·.1) = false := by intro _; rfl) : XE g l M G (.Call (.Name "len" p) [a] [] pos) (tEx q fun i => tIn ((f i).length : Int)) :=
  x_callB (f := fun xs H Q => ∃ p ys, xs = [.ref p] ∧ (SqL g.K H p ys ∨ SqT g.K H p ys) ∧ Q (.int ys.length) H) (fun X A => by rw [← A.K]; exact call_len_seq) (fun S H vs Q e k qq => by
    obtain ⟨v, rfl, i, hi, d, ws, rfl, h2, h3⟩ := k.one
    exact ⟨d, ws, rfl, .inr (SqT.of (e _ _ h2)), by rw [← h3.len]; exact qq _ S H (Gr.refl e) ⟨i, hi, rfl⟩⟩) hm boot_len (xa_1 h hs) hg (by decide) (by decide) hs hpl
theorem x_lenXL {f : ι → List Ty} (h : XE g l M G a (tEx q fun i => tLs (f i))) (hm : g.mg "len" = none) (hg : l.sc.names.lookup ("len" : Str) = some .globalImplicit := by rfl) (hs : ∀ env, starEach [a] env = (false, eval a env) :: starEach [] env := by intro _; rfl) (hpl : ∀ env, (backTo pos (starEach [] env)).any (·.1) = false := by intro _; rfl) : XE g l M G (.Call (.Name "len" p) [a] [] pos) (tEx q fun i => tIn ((f i).length : Int)) :=
  x_callB (f := fun xs H Q => ∃ p ys, xs = [.ref p] ∧ (SqL g.K H p ys ∨ SqT g.K H p ys) ∧ Q (.int ys.length) H) (fun X A => by rw [← A.K]; exact call_len_seq) (fun S H vs Q e k qq => by
    obtain ⟨v, rfl, i, hi, d, ws, rfl, h2, h3⟩ := k.one
    exact ⟨d, ws, rfl, .inl (SqL.of (e _ _ h2)), by rw [← h3.len]; exact qq _ S H (Gr.refl e) ⟨i, hi, rfl⟩⟩) hm boot_len (xa_1 h hs) hg (by decide) (by decide) hs hpl
end
structure BookOk (k : Book) : Prop where
  n1 : 1 ≤ k.length
  n3 : k.length ≤ 3
  tab : ∀ t ∈ k, RowsOk t.2.1 t.2.2
  up : k.Pairwise fun s t => s.1.1.cps.toList < t.1.1.cps.toList
  vals : ∀ r, Same (valsOf k) r → r.length ≤ 18
  few : (valsOf k).length ≤ 1000
abbrev Bk1 := { k : Book // BookOk k }
theorem next_of {α : Type} {R : α → α → Prop} {rs : List α} (h : rs.Pairwise R) {q : α × α} (hq : q ∈ rs.zip (rs.drop 1)) : R q.1 q.2 := by
  obtain ⟨i, hi⟩ := List.mem_iff_getElem?.mp hq
  rw [List.getElem?_zip_eq_some, List.getElem?_drop] at hi
  obtain ⟨h1, e1⟩ := List.getElem?_eq_some_iff.mp hi.1
  obtain ⟨h2, e2⟩ := List.getElem?_eq_some_iff.mp hi.2
  rw [← e1, ← e2]
  exact List.pairwise_iff_getElem.mp h i (1 + i) h1 h2 (by omega)
theorem ok_is_book (b : Gb g) (F : Df g "is_book" (top 29)) (F1 : Fn g "is_table" 6 (Spp (fun t : Tb => [tTab t.1]) (fun r => tBl true))) (F2 : Fn g "values_in" 4 (Spp (fun k : { k : Book // (valsOf k).length ≤ 1000 } => [tBk k.1]) (fun k => tEx (Same (valsOf k.1)) tVls))) : Fn g "is_book" 7 (Spp (fun k : Bk1 => [tBk k.1]) (fun r => tBl true)) := by
  refine fn_mk (N := ["thing", "names", "table", "name", "columns", "rows", "one", "other"]) (ps := ["thing"]) F ⟨rfl, rfl, rfl, by decide +kernel, rfl, by decide +kernel, by decide +kernel⟩ (fun _ => rfl) (by decide) (hb1 fun _ _ _ _ _ _ _ => rfl) (fun _ _ _ h => h) fun k M S_0 H_0 _ => ?_
  obtain ⟨k, h⟩ := k
  have h1 := h.n1
  have h3 := h.n3
  refine xb_when (xw_t (xw_orB (x := false) (y := false) (xt_notB (x := true) (xt_bl (x_isi (x_var 0) tag_tu (by decide +kernel) b.isinstance b.tuple boot_tuple'))) fun _ => xw_orB (x := false) (y := false) (xt_notB (x := true) (xt_is (xt_lele x_int (x_lenT (x_var 0) b.len) (x_int0 b.TABLES)) (decide_eq_true (show (1 : Int) ≤ ((k.map tTab).length : Int) ∧ ((k.map tTab).length : Int) ≤ 3 by rw [List.length_map]; omega)))) fun _ =>
    xw_or1 (xt_notB (x := true) (xt_bl (x_allT (xs := k) (x_lcA (own := [("table", 2)]) (vs := [2]) (T := tTab) (U := fun _ => tBl true) (xi_tup (x_var 0)) rfl (blkOk_by (by decide +kernel)) (by omega) (fun t _ => xg_name 2) fun t ht => x_callI F1 ⟨t, h.tab t ht⟩ (xa_1 (x_var 2)) trivial) b.all))))) (fun h => nomatch h) fun _ => ?_
  refine xb_setC 1 (xsc_L 1 (own := [("name", 3), ("columns", 4), ("rows", 5)]) (vs := [3, 4, 5]) (T := tTab) (U := fun t : Tab => tNm t.1) (f := fun _ => true) (G1 := fun t => [.ty (tBk k), .unk, .unk, .ty (tNm t.1), .ty (tNt t.2.1), .ty (tRows t.2.2), .unk, .unk]) rfl (xi_tup (x_var 0)) (blkOk_by (by decide +kernel)) (show k.length ≤ _ by omega)
    (fun D t _ => xg_tup (xgs_cons (xg_name 3) (xgs_cons (xg_name 4) (xgs_cons (xg_name 5) xgs_nil)))) (fun D t _ => xts_nil) (fun D t _ _ => x_var 3)) ?_
  have ef : k.filter (fun _ => true) = k := List.filter_eq_self.mpr fun _ _ => rfl
  rw [ef]
  have hz : ((k.map fun t => t.1).zip ((k.map fun t => t.1).drop 1)).length ≤ 100000 := by
    rw [List.length_zip, List.length_map]
    omega
  have em : (k.map fun t : Tab => tNm t.1) = (k.map fun t => t.1).map tNm := by rw [List.map_map]; rfl
  have up : (k.map fun t => t.1).Pairwise fun s t : Nm => s.1.cps.toList < t.1.cps.toList := List.pairwise_map.mpr h.up
  refine xb_rt' (x_andB (x := true) (y := true) (x_allT (xs := (k.map fun t => t.1).zip ((k.map fun t => t.1).drop 1)) (x_lcA (own := [("one", 6), ("other", 7)]) (vs := [6, 7]) (T := fun q : Nm × Nm => tTu [tNm q.1, tNm q.2]) (U := fun _ => tBl true)
      (G1 := fun q => [.ty (tBk k), .ty (tLs (k.map fun t => tNm t.1)), .unk, .unk, .unk, .unk, .ty (tNm q.1), .ty (tNm q.2)]) ?_ rfl (blkOk_by (by decide +kernel)) hz (fun q hq => xg_tup (xgs_cons (xg_name 6) (xgs_cons (xg_name 7) xgs_nil))) fun q hq => x_isB (x_ltS (x_var 6) (x_var 7)) (decide_eq_true (next_of up hq))) b.all) fun _ => x_one (x_leX (x_lenX (x_callI F2 ⟨k, h.few⟩ (xa_1 (x_var 0)) trivial) b.len) (x_int0 b.VALUES) fun r hr => ?_))
  · rw [← zipT_map, List.map_drop, ← em]
    exact xi_zipL (x_var 1) (x_slL_from (k := 1) (x_var 1) x_int) b.zip
  · rw [List.length_map]
    have := h.vals r hr
    omega
def headsOf (k : Book) : List (Nm × Nat) := k.map fun t => (t.1, t.2.1)
def tHd (q : Nm × Nat) : Ty := tTu [tNm q.1, tNt q.2]
theorem encHd : Enc (List (Nm × Nat)) (fun l => tLs (l.map tHd)) (fun l => .list (l.map fun q => .tuple [.str q.1.1, .int (q.2 : Int)])) 2 := (encNm.pair encNt).lst
theorem ok_heads (b : Gb g) (F : Df g "heads" (top 30)) : Fn g "heads" 1 (Spp (fun k : { k : Book // k.length ≤ 1000 } => [tBk k.1]) (fun k => tLs ((headsOf k.1).map tHd))) := by
  refine fn_mk (N := ["book", "name", "columns", "rows"]) (ps := ["book"]) F ⟨rfl, rfl, rfl, by decide +kernel, rfl, by decide +kernel, by decide +kernel⟩ (fun _ => rfl) (by decide) (hb1 fun _ _ _ _ _ _ _ => rfl) (fun _ _ _ h => h) fun k M S_0 H_0 _ => ?_
  obtain ⟨k, h⟩ := k
  refine xb_rt' (x_ty (x_lcA (own := [("name", 1), ("columns", 2), ("rows", 3)]) (vs := [1, 2, 3]) (T := tTab) (U := fun t : Tab => tTu [tNm t.1, tNt t.2.1]) (G1 := fun t => [.ty (tBk k), .ty (tNm t.1), .ty (tNt t.2.1), .ty (tRows t.2.2)]) (xi_tup (x_var 0)) rfl (blkOk_by (by decide +kernel)) (show k.length ≤ _ by omega) (fun t _ => xg_tup (xgs_cons (xg_name 1) (xgs_cons (xg_name 2) (xgs_cons (xg_name 3) xgs_nil)))) fun t _ => x_tup (xa_2 (x_var 1) (x_var 2))) ?_)
  unfold headsOf
  rw [List.map_map]
  rfl
structure BooksOk (bs : List Book) : Prop where
  n1 : 1 ≤ bs.length
  n3 : bs.length ≤ 3
  book : ∀ k ∈ bs, BookOk k
  same : ∀ k ∈ bs, ∀ k' ∈ bs, headsOf k = headsOf k'
def tBks (bs : List Book) : Ty := tTu (bs.map tBk)
theorem ok_are_books (b : Gb g) (F : Df g "are_books" (top 31)) (F1 : Fn g "is_book" 7 (Spp (fun k : Bk1 => [tBk k.1]) (fun r => tBl true))) (F2 : Fn g "heads" 1 (Spp (fun k : { k : Book // k.length ≤ 1000 } => [tBk k.1]) (fun k => tLs ((headsOf k.1).map tHd)))) : Fn g "are_books" 8 (Spp (fun bs : { bs : List Book // BooksOk bs } => [tBks bs.1]) (fun r => tBl true)) := by
  refine fn_mk (N := ["thing", "book"]) (ps := ["thing"]) F ⟨rfl, rfl, rfl, by decide +kernel, rfl, by decide +kernel, by decide +kernel⟩ (fun _ => rfl) (by decide) (hb1 fun _ _ _ _ _ _ _ => rfl) (fun _ _ _ h => h) fun bs M S_0 H_0 _ => ?_
  obtain ⟨bs, h⟩ := bs
  have h1 := h.n1
  have h3 := h.n3
  cases bs with
  | nil => exact absurd h1 (by decide)
  | cons k0 ks =>
  refine xb_when (xw_t (xw_orB (x := false) (y := false) (xt_notB (x := true) (xt_bl (x_isi (x_var 0) tag_tu (by decide +kernel) b.isinstance b.tuple boot_tuple'))) fun _ => xw_orB (x := false) (y := false) (xt_notB (x := true) (xt_is (xt_lele x_int (x_lenT (x_var 0) b.len) (x_int0 b.MANY)) (decide_eq_true (show (1 : Int) ≤ (((k0 :: ks).map tBk).length : Int) ∧ (((k0 :: ks).map tBk).length : Int) ≤ 3 by rw [List.length_map]; omega)))) fun _ =>
    xw_or1 (xt_notB (x := true) (xt_bl (x_allT (xs := k0 :: ks) (x_lcA (own := [("book", 1)]) (vs := [1]) (T := tBk) (U := fun _ => tBl true) (xi_tup (x_var 0)) rfl (blkOk_by (by decide +kernel)) (by omega) (fun t _ => xg_name 1) fun t ht => x_callI F1 ⟨t, h.book t ht⟩ (xa_1 (x_var 1)) trivial) b.all))))) (fun h => nomatch h) fun _ => ?_
  refine xb_rt' (x_allT (xs := k0 :: ks) (x_lcA (own := [("book", 1)]) (vs := [1]) (T := tBk) (U := fun _ => tBl true) (xi_tup (x_var 0)) rfl (blkOk_by (by decide +kernel)) (by omega) (fun t _ => xg_name 1) fun t ht => ?_) b.all)
  have l1 := (h.book t ht).n3
  have l0 := (h.book k0 (List.mem_cons_self ..)).n3
  exact x_isB (x_eqE encHd (x_callI F2 ⟨t, by omega⟩ (xa_1 (x_var 1)) trivial) (x_callI F2 ⟨k0, by omega⟩ (xa_1 (x_ixT (n := 0) (x_var 0) x_int rfl)) trivial)) (decide_eq_true (h.same t ht k0 (List.mem_cons_self ..)))
end Z
end

section
/-! T6: marks, numbers, reading on. -/
namespace Z
open PySem PySem.Spec L2 PySem.W ZL
variable {g : Gc}
section
variable {ζ : Type} {l : Lc} {M : Md} {B S_0 H_0 : Hp} {G : List Slot} {pos p p1 : Pos} {a b e tg iter : Expr} {t u : Ty} {ts : List Ty} {body rest : List Stmt} {D : Ends}
theorem eqv_str (s t : Str) : PyData.eqv (.str s) (.str t) = decide (s = t) := by
  show (s == t) = _
  exact Bool.beq_eq_decide_eq _ _
theorem x_eqS {s t : Str} {x : Bool} (hs : PyData.strOk s = true) (ht : PyData.strOk t = true) (ha : XE g l M G a (tSt s)) (hb : XE g l M G b (tSt t)) (q : decide (s = t) = x) : XE g l M G (.Compare a [.Eq] [b] pos) (tBl x) := x_isB (x_eq isD_st isD_st (dt_str hs) (dt_str ht) ha hb) (by rw [eqv_str, q])
theorem xt_eqS {s t : Str} {x : Bool} (hs : PyData.strOk s = true) (ht : PyData.strOk t = true) (ha : XE g l M G a (tSt s)) (hb : XE g l M G b (tSt t)) (q : decide (s = t) = x) : XTb g l M G (.Compare a [.Eq] [b] pos) x := xt_is (xt_eq isD_st isD_st (dt_str hs) (dt_str ht) ha hb) (by rw [eqv_str, q])
/-- for tg in iter, and on -/
theorem xb_for (Iv : Nat → ζ → Prop) (Gi : Nat → ζ → List Slot) {G1 : Nat → ζ → List Slot} {vs : List Nat} (hi : XI g l M G tg iter ts) (z0 : ζ) (h0 : Iv 0 z0) (e0 : Gi 0 z0 = G)
    (hg : ∀ i z t, ts[i]? = some t → Iv i z → XG g l M (Gi i z) vs tg t (G1 i z))
    (hb : ∀ i z t B', ts[i]? = some t → Iv i z → Ex B B' → XB g l (Ct M B' S_0 H_0 (G1 i z)) body { nx := fun σ H => ∃ z', Iv (i + 1) z' ∧ Ct M B' S_0 H_0 (Gi (i + 1) z') σ H, ct := fun σ H => ∃ z', Iv (i + 1) z' ∧ Ct M B' S_0 H_0 (Gi (i + 1) z') σ H, bk := fun σ H => ∃ z, Iv ts.length z ∧ Ct M B S_0 H_0 (Gi ts.length z) σ H, rt := D.rt })
    (k : ∀ z, Iv ts.length z → XB g l (Ct M B S_0 H_0 (Gi ts.length z)) rest D) (hs : ∀ env x, foldedSetIterable iter env x = pure x := by intro _ _; rfl) : XB g l (Ct M B S_0 H_0 G) (.For tg iter body [] pos :: rest) D :=
  xb_cons (fun σ H => ∃ z, Iv ts.length z ∧ Ct M B S_0 H_0 (Gi ts.length z) σ H) (xs_for Iv Gi hi z0 h0 e0 hg hb (fun z σ H h1 h2 => ⟨z, h1, h2⟩) hs)
    (xb_pre (pre := fun σ H => ∃ z : { z // Iv ts.length z }, Ct M B S_0 H_0 (Gi ts.length z.1) σ H) (xb_ex fun z => k z.1 z.2) fun σ H ⟨z, h1, h2⟩ => ⟨⟨z, h1⟩, h2⟩)
end
theorem ok_any : PyData.strOk ("any" : Str) = true := by decide +kernel
theorem ok_is' : PyData.strOk ("is" : Str) = true := by decide +kernel
theorem ne_ai : decide (("any" : Str) = "is") = false := by decide
theorem ne_ia : decide (("is" : Str) = "any") = false := by decide
theorem ok_is_mark (b : Gb g) (F : Df g "is_mark" (top 39)) (F1 : FnWhole g) (F2 : FnVal g) : Fn g "is_mark" 3 (Spp (fun m : Mark => [tMk m]) (fun m => tBl true)) := by
  refine fn_mk (N := ["thing"]) (ps := ["thing"]) F ⟨rfl, rfl, rfl, by decide +kernel, rfl, by decide +kernel, by decide +kernel⟩ (fun _ => rfl) (by decide) (hb1 fun _ _ _ _ _ _ _ => rfl) (fun _ _ _ h => h) fun m M S_0 H_0 _ => ?_
  have c1 : ∀ m : Mark, (kMk m).length = 2 := fun m => by cases m <;> rfl
  refine xb_when (xw_t (xw_orB (x := false) (y := false) (xt_notB (x := true) (xt_bl (x_isi (x_var 0) tag_tu (by decide +kernel) b.isinstance b.tuple boot_tuple'))) fun _ => xw_orB (x := false) (y := false) (xt_is (xt_neE encIn (x_lenT (x_var 0) b.len) x_int) (by rw [List.length_map, c1]; rfl)) fun _ => xw_or1 (xt_notB (x := true) (xt_bl ?_)))) (fun h => nomatch h) fun _ => ?_
  · cases m with
    | any k => exact x_isi (x_ixT (n := 0) (x_var 0) x_int rfl) tag_st (by decide +kernel) b.isinstance b.str boot_str'
    | is v => exact x_isi (x_ixT (n := 0) (x_var 0) x_int rfl) tag_st (by decide +kernel) b.isinstance b.str boot_str'
  · cases m with
    | any k => exact xb_when (xt_eqS (x := true) ok_any ok_any (x_ixT (n := 0) (x_var 0) x_int rfl) (x_str0 b.ANY) (by decide)) (fun _ => xb_rt (x_andB (x := true) (y := true) (x_callI F1 (.inl (k : Int)) (xa_1 (x_ixT (n := 1) (x_var 0) x_int rfl)) trivial) fun _ => x_one (x_isB (x_ge (x_ixT (n := 1) (t := tIn (k : Int)) (x_var 0) x_int rfl) x_int) (decide_eq_true (show (0 : Int) ≤ (k : Int) by omega)))) Sub.rfl') fun h => nomatch h
    | is v => exact xb_when (xt_eqS (x := false) ok_is' ok_any (x_ixT (n := 0) (x_var 0) x_int rfl) (x_str0 b.ANY) ne_ia) (fun h => nomatch h) fun _ => xb_rt' (x_andB (x := true) (y := true) (x_eqS ok_is' ok_is' (x_ixT (n := 0) (x_var 0) x_int rfl) (x_str0 b.IS) (by decide)) fun _ => x_one (x_callI F2 v (xa_1 (x_ixT (n := 1) (x_var 0) x_int rfl)) trivial))
def marksOf (ls : List Line) : List Mark := ls.flatMap fun l => l.2
abbrev Lns := { ls : List Line // (marksOf ls).length ≤ 60 }
theorem ok_marks_in (b : Gb g) (F : Df g "marks_in" (top 40)) : Fn g "marks_in" 1 (Spp (fun ls : Lns => [tLns ls.1]) (fun ls => tLs ((marksOf ls.1).map tMk))) := by
  refine fn_mk (N := ["lines", "name", "marks", "mark"]) (ps := ["lines"]) F ⟨rfl, rfl, rfl, by decide +kernel, rfl, by decide +kernel, by decide +kernel⟩ (fun _ => rfl) (by decide) (hb1 fun _ _ _ _ _ _ _ => rfl) (fun _ _ _ h => h) fun ls M S_0 H_0 _ => ?_
  obtain ⟨ls, h⟩ := ls
  have e : (ls.flatMap fun l => l.2.map tMk) = (marksOf ls).map tMk := by
    unfold marksOf
    rw [List.map_flatMap]
  refine xb_rt' (x_ty (x_lc2 (xs := ls) (ys := fun l : Line => l.2) (own := [("name", 1), ("marks", 2), ("mark", 3)]) (vs := [1, 2, 3]) (vs1 := [3]) (T := tLn) (T1 := tMk) (U := fun _ => tMk) (G1 := fun l => [.ty (tLns ls), .ty (tNm l.1), .ty (tMs l.2), .unk]) (G2 := fun l m => [.ty (tLns ls), .ty (tNm l.1), .ty (tMs l.2), .ty (tMk m)]) rfl (xi_tup (x_var 0)) (blkOk_by (by decide +kernel))
    (fun D l _ => xg_tup (xgs_cons (xg_name 1) (xgs_cons (xg_name 2) xgs_nil))) (fun D l _ => xi_tup (x_var 2)) (fun D l _ m _ => xg_name 3) (fun D l _ m _ => x_var 3) (by decide) ?_) ?_)
  · rw [e, List.length_map]
    omega
  · rw [e]
def isAny : Mark → Bool
  | .any _ => true
  | .is _ => false
def num : Mark → Int
  | .any k => (k : Int)
  | .is _ => 0
def numsOf (ls : List Line) : List Int := ((marksOf ls).filter isAny).map num
def tNums (ms : List Int) : Ty := tLs (ms.map tIn)
theorem xt_isAny {l : Lc} {M : Md} {G : List Slot} {a c : Expr} {pos : Pos} {m : Mark} (ha : XE g l M G a (tMk m)) (hc : XE g l M G c (tIn 0)) {b : Expr} (hb : XE g l M G b (tSt "any")) (hs : PlainIx c := by exact fun _ _ => rfl) {p2 : Pos} : XTb g l M G (.Compare (.Subscript a c p2) [.Eq] [b] pos) (isAny m) := by
  cases m with
  | any k => exact xt_eqS ok_any ok_any (x_ixT (n := 0) ha hc rfl hs) hb (decide_eq_true rfl)
  | is v => exact xt_eqS ok_is' ok_any (x_ixT (n := 0) ha hc rfl hs) hb ne_ia
theorem xt_isIs {l : Lc} {M : Md} {G : List Slot} {a c : Expr} {pos : Pos} {m : Mark} (ha : XE g l M G a (tMk m)) (hc : XE g l M G c (tIn 0)) {b : Expr} (hb : XE g l M G b (tSt "is")) (hs : PlainIx c := by exact fun _ _ => rfl) {p2 : Pos} : XTb g l M G (.Compare (.Subscript a c p2) [.Eq] [b] pos) (!isAny m) := by
  cases m with
  | any k => exact xt_eqS ok_any ok_is' (x_ixT (n := 0) ha hc rfl hs) hb ne_ai
  | is v => exact xt_eqS ok_is' ok_is' (x_ixT (n := 0) ha hc rfl hs) hb (decide_eq_true rfl)
theorem ok_numbers_in (b : Gb g) (F : Df g "numbers_in" (top 41)) (F1 : Fn g "marks_in" 1 (Spp (fun ls : Lns => [tLns ls.1]) (fun ls => tLs ((marksOf ls.1).map tMk)))) : Fn g "numbers_in" 2 (Spp (fun ls : Lns => [tLns ls.1]) (fun ls => tEx (Srt (numsOf ls.1)) tNums)) := by
  refine fn_mk (N := ["lines", "mark"]) (ps := ["lines"]) F ⟨rfl, rfl, rfl, by decide +kernel, rfl, by decide +kernel, by decide +kernel⟩ (fun _ => rfl) (by decide) (hb1 fun _ _ _ _ _ _ _ => rfl) (fun _ _ _ h => h) fun ls M S_0 H_0 _ => ?_
  have h := ls.2
  refine xb_rt' (x_sortS (ns := numsOf ls.1) (xc_S (xs := marksOf ls.1) (f := isAny) (n := num) (own := [("mark", 1)]) (vs := [1]) (T := tMk) (G1 := fun m => [.ty (tLns ls.1), .ty (tMk m)]) rfl (xi_list (x_callI F1 ls (xa_1 (x_var 0)) trivial)) (blkOk_by (by decide +kernel)) (by omega) (fun D m _ => xg_name 1) (fun D m _ => xts_one (xt_isAny (x_var 1) x_int (x_str0 b.ANY))) fun D m _ hm => ?_) ?_ b.sorted)
  · cases m with
    | any k => exact x_ixT (n := 1) (x_var 1) x_int rfl
    | is v => cases hm
  · unfold numsOf
    rw [List.length_map]
    have := List.length_filter_le isAny (marksOf ls.1)
    omega
end Z
end

section
/-! T7: read_on, value_read. -/
namespace Z
open PySem PySem.Spec L2 PySem.W ZL
variable {g : Gc}
abbrev Rd := List (Nat × Vl)
def stepR (z : Rd) : Mark → Vl → Rd × Bool
  | .is c, v => (z, decide (c = v))
  | .any k, v => (setdA z k v, decide ((valA z k).getD v = v))
def readOn : Rd → List Mark → List Vl → Option Rd
  | z, m :: ms, v :: vs => if (stepR z m v).2 = true then readOn (stepR z m v).1 ms vs else none
  | z, [], _ => some z
  | z, _ :: _, [] => some z
def kA (k : Nat) : List Key := kMk (.any k)
theorem kA_inj {a b : Nat} (h : kA a = kA b) : a = b := Mark.any.inj (kMk_inj h)
def rdT (z : Rd) : List (List Key × Ty) := z.map fun q => (kA q.1, tVl q.2)
theorem valA_rd (z : Rd) (k : Nat) : valA (rdT z) (kA k) = (valA z k).map tVl := by
  induction z with
  | nil => rfl
  | cons q z ih =>
    obtain ⟨j, v⟩ := q
    show valA ((kA j, tVl v) :: rdT z) (kA k) = _
    rw [valA_cons, valA_cons]
    by_cases e : j = k
    · rw [if_pos e, if_pos (by rw [e])]; rfl
    · rw [if_neg e, if_neg fun h => e (kA_inj h), ih]
theorem putA_rd (z : Rd) (k : Nat) (v : Vl) : putA (rdT z) (kA k) (tVl v) = rdT (putA z k v) := by
  unfold putA
  have e : ((rdT z).any fun q => decide (q.1 = kA k)) = z.any fun q => decide (q.1 = k) := by
    unfold rdT
    rw [List.any_map]
    congr 1
    funext q
    exact decide_eq_decide.mpr ⟨fun h => kA_inj h, fun h => by rw [← h]⟩
  rw [e]
  split
  · unfold rdT
    rw [List.map_map, List.map_map]
    apply List.map_congr_left
    intro q _
    show (if kA q.1 = kA k then (kA q.1, tVl v) else (kA q.1, tVl q.2)) = _
    by_cases h : q.1 = k
    · rw [if_pos (by rw [h])]; simp [h]
    · rw [if_neg fun z => h (kA_inj z)]; simp [h]
  · unfold rdT
    rw [List.map_append]
    rfl
theorem setdA_rd (z : Rd) (k : Nat) (v : Vl) : setdA (rdT z) (kA k) (tVl v) = rdT (setdA z k v) := by
  unfold setdA
  rw [valA_rd]
  cases valA z k with
  | none => exact putA_rd z k v
  | some w => rfl
structure RdOk (z : Rd) : Prop where
  nd : (z.map (·.1)).Nodup
  lt : ∀ k ∈ z.map (·.1), k < 64
theorem valA_none {κ β : Type} [DecidableEq κ] {z : List (κ × β)} {k : κ} (h : valA z k = none) : k ∉ z.map (·.1) := by
  induction z with
  | nil => simp
  | cons q z ih =>
    obtain ⟨j, v⟩ := q
    rw [valA_cons] at h
    by_cases e : j = k
    · rw [if_pos e] at h; cases h
    · rw [if_neg e] at h
      intro m
      rcases List.mem_cons.mp m with m | m
      · exact e m.symm
      · exact ih h m
theorem RdOk.setd {z : Rd} (h : RdOk z) {k : Nat} (hk : k < 64) (v : Vl) : RdOk (setdA z k v) := by
  unfold setdA
  cases e : valA z k with
  | some w => exact h
  | none =>
    have hn := valA_none e
    have ek := putA_keys z k v
    rw [if_neg hn] at ek
    refine ⟨by rw [ek, List.nodup_append]; exact ⟨h.nd, by simp, fun a ha b hb q => hn (by rw [← show b = k by simpa using hb, ← q]; exact ha)⟩, fun j hj => ?_⟩
    rw [ek, List.mem_append] at hj
    rcases hj with hj | hj
    · exact h.lt j hj
    · rw [show j = k by simpa using hj]; exact hk
theorem nodup_len {α : Type} [DecidableEq α] : ∀ {l m : List α}, l.Nodup → (∀ x ∈ l, x ∈ m) → l.length ≤ m.length
  | [], _, _, _ => Nat.zero_le _
  | x :: l, m, hn, hs => by
    have hx := hs x (List.mem_cons_self ..)
    obtain ⟨h1, h2⟩ := List.nodup_cons.mp hn
    have ih := nodup_len (m := m.erase x) h2 fun y hy => (List.mem_erase_of_ne (show y ≠ x from fun e => h1 (by rw [← e]; exact hy))).mpr (hs y (List.mem_cons_of_mem _ hy))
    have := List.length_erase_of_mem hx
    have hp := List.length_pos_of_mem hx
    show l.length + 1 ≤ _
    omega
theorem RdOk.len {z : Rd} (h : RdOk z) : z.length ≤ 64 := by
  have h1 := nodup_len (m := List.range 64) h.nd fun k hk => List.mem_range.mpr (h.lt k hk)
  rw [List.length_map, List.length_range] at h1
  exact h1
theorem hashInt_small {k : Nat} (hk : k < 64) : hashInt (k : Int) = (k : Int) := by
  have key : ∀ k, k < 64 → hashInt ((k : Nat) : Int) = (k : Int) := by decide +kernel
  exact key k hk
def hA (w : World) (k : Nat) : Int := reduceHash (Builtin.Tuple.tupleHashOf ((kA k).map (keyH w)))
theorem kA_hash (w : World) {k : Nat} (hk : k < 64) : (kA k).map (keyH w) = [keyH w (.inr "any"), (k : Int)] := by
  show [keyH w (.inr "any"), keyH w (.inl (k : Int))] = _
  rw [show keyH w (.inl (k : Int)) = (k : Int) from hashInt_small hk]
theorem hA_inj {w : World} {k j : Nat} (hk : k < 64) (hj : j < 64) (h : hA w k = hA w j) : k = j := by
  unfold hA at h
  rw [kA_hash w hk, kA_hash w hj] at h
  exact th_inj hk hj h
theorem hA_apart {w : World} {ks : List Nat} (hn : ks.Nodup) (hl : ∀ k ∈ ks, k < 64) : (ks.map (hA w)).Nodup := by
  induction ks with
  | nil => exact List.nodup_nil
  | cons k ks ih =>
    rw [List.map_cons, List.nodup_cons]
    rw [List.nodup_cons] at hn
    refine ⟨fun hm => hn.1 ?_, ih hn.2 fun j hj => hl j (List.mem_cons_of_mem _ hj)⟩
    obtain ⟨j, hj, e⟩ := List.mem_map.mp hm
    rw [← hA_inj (hl j (List.mem_cons_of_mem _ hj)) (hl k (List.mem_cons_self ..)) e]
    exact hj
theorem RdOk.apart {z : Rd} (h : RdOk z) (w : World) : Apart w ((rdT z).map (·.1)) := by
  have e : (rdT z).map (·.1) = (z.map (·.1)).map kA := by
    unfold rdT
    rw [List.map_map, List.map_map]
    rfl
  rw [e]
  unfold Apart
  rw [List.map_map]
  exact hA_apart h.nd h.lt
def MkOk (ms : List Mark) : Prop := ∀ k, Mark.any k ∈ ms → k < 64
def tRd (z : Rd) : Ty := tDT (rdT z)
def tOpt {α : Type} (t : α → Ty) : Option α → Ty
  | none => tNon
  | some a => t a
theorem readOn_next {z : Rd} {m : Mark} {v : Vl} {ms : List Mark} {vs : List Vl} {i : Nat} (hm : ms[i]? = some m) (hv : vs[i]? = some v) : readOn z (ms.drop i) (vs.drop i) = if (stepR z m v).2 = true then readOn (stepR z m v).1 (ms.drop (i + 1)) (vs.drop (i + 1)) else none := by
  obtain ⟨h1, e1⟩ := List.getElem?_eq_some_iff.mp hm
  obtain ⟨h2, e2⟩ := List.getElem?_eq_some_iff.mp hv
  rw [List.drop_eq_getElem_cons h1, List.drop_eq_getElem_cons h2, e1, e2]
  rfl
theorem readOn_end {z : Rd} {ms : List Mark} {vs : List Vl} {i : Nat} (h : min ms.length vs.length ≤ i) : readOn z (ms.drop i) (vs.drop i) = some z := by
  by_cases h1 : ms.length ≤ i
  · rw [List.drop_of_length_le h1]; cases (vs.drop i) <;> rfl
  · rw [List.drop_of_length_le (l := vs) (by omega)]
    cases ms.drop i <;> rfl
end Z
end

section
/-! T7b: read_on. -/
namespace Z
open PySem PySem.Spec L2 PySem.W ZL
variable {g : Gc}
inductive Fgt : List Slot → List Slot → Prop where
  | nil : Fgt [] []
  | keep {s : Slot} {G G' : List Slot} : Fgt G G' → Fgt (s :: G) (s :: G')
  | drop {s : Slot} {G G' : List Slot} : Fgt G G' → Fgt (s :: G) (.unk :: G')
theorem Fgt.len {G G' : List Slot} (h : Fgt G G') : G'.length = G.length := by
  induction h with
  | nil => rfl
  | keep _ ih => simp [ih]
  | drop _ ih => simp [ih]
theorem Fgt.at {G G' : List Slot} (h : Fgt G G') : ∀ {i : Nat} {s : Slot}, G'[i]? = some s → s = .unk ∨ G[i]? = some s := by
  induction h with
  | nil => intro i s e; simp at e
  | keep _ ih => intro i s e; cases i with
    | zero => exact .inr e
    | succ i => exact ih (by simpa using e)
  | drop _ ih => intro i s e; cases i with
    | zero => exact .inl (by simpa using e.symm)
    | succ i => exact ih (by simpa using e)
theorem Ct.forget {M : Md} {B S_0 H_0 : Hp} {G G' : List Slot} {σ : L2.St} {H : Hp} (h : Ct M B S_0 H_0 G σ H) (f : Fgt G G' := by repeat (first | exact Fgt.nil | apply Fgt.keep | apply Fgt.drop)) : Ct M B S_0 H_0 G' σ H := by
  obtain ⟨S, h1, h2, h3, h4⟩ := h
  refine ⟨S, h1, h2, h3, f.len.trans h4.len, fun i s hi => ?_, fun i j p c q d hi hj n => ?_⟩
  · rcases f.at hi with e | e
    · subst e
      have hl : i < G.length := by rw [← f.len]; exact (List.getElem?_eq_some_iff.mp hi).1
      obtain ⟨x, hx, _⟩ := h4.at_ i _ (List.getElem?_eq_getElem hl)
      exact ⟨x, hx, trivial⟩
    · exact h4.at_ i s e
  · exact h4.dis i j p c q d ((f.at hi).resolve_left fun z => nomatch z) ((f.at hj).resolve_left fun z => nomatch z) n
abbrev Ro := { q : Rd × List Mark × Row // RdOk q.1 ∧ MkOk q.2.1 }
theorem ok_read_on (b : Gb g) (F : Df g "read_on" (top 43)) : Fn g "read_on" 1 (Spp (fun q : Ro => [tRd q.1.1, tMs q.1.2.1, tRow q.1.2.2]) (fun q => tOpt tRd (readOn q.1.1 q.1.2.1 q.1.2.2))) := by
  refine fn_mk (N := ["reading", "marks", "row", "found", "mark", "value", "fitting"]) (ps := ["reading", "marks", "row"]) F ⟨rfl, rfl, rfl, by decide +kernel, rfl, by decide +kernel, by decide +kernel⟩ (fun _ => rfl) (by decide) (hb3 fun _ _ _ _ _ _ _ _ _ => rfl) (fun _ _ _ h => h) fun q M S_0 H_0 _ => ?_
  obtain ⟨⟨z0, ms, vs⟩, h1, h2⟩ := q
  refine xb_own 3 (xf_dictT (x_var 0) (h1.apart g.w) b.dict) fun _ P _ => ?_
  have ez : zipT (ms.map tMk) (vs.map tVl) = (ms.zip vs).map fun q => tTu [tMk q.1, tVl q.2] := zipT_map ms vs
  have hlen : ((ms.zip vs).map fun q => tTu [tMk q.1, tVl q.2]).length = min ms.length vs.length := by rw [List.length_map, List.length_zip]
  refine xb_for (ts := (ms.zip vs).map fun q => tTu [tMk q.1, tVl q.2]) (fun i z => RdOk z ∧ readOn z0 ms vs = readOn z (ms.drop i) (vs.drop i)) (fun i z => [.ty (tRd z0), .ty (tMs ms), .ty (tRow vs), .own P (.dT (rdT z)), .unk, .unk, .unk]) (G1 := fun i z => match (ms.zip vs)[i]? with
    | some q => [.ty (tRd z0), .ty (tMs ms), .ty (tRow vs), .own P (.dT (rdT z)), .ty (tMk q.1), .ty (tVl q.2), .unk]
    | none => []) (vs := [4, 5]) (by rw [← ez]; exact xi_zipT (x_var 1) (x_var 2) b.zip) z0 ⟨h1, by rw [List.drop_zero, List.drop_zero]⟩ rfl (fun i z t hit _ => ?_) (fun i z t B' hit ⟨hz, hr⟩ _ => ?_) fun z ⟨hz, hr⟩ => ?_
  · obtain ⟨q, hq, _, rfl⟩ := map_get hit
    rw [hq]
    exact xg_tup (xgs_cons (xg_name 4) (xgs_cons (xg_name 5) xgs_nil))
  · obtain ⟨q, hq, hmem, rfl⟩ := map_get hit
    rw [hq]
    obtain ⟨m, v⟩ := q
    rw [List.getElem?_zip_eq_some] at hq
    have hnext := readOn_next (z := z) hq.1 hq.2
    rw [hnext] at hr
    have hlz := hz.len
    have gdm : ∀ k, ((valA (rdT z) (kA k)).getD (tVl v)) = tVl ((valA z k).getD v) := fun k => by
      rw [valA_rd]
      cases valA z k <;> rfl
    cases m with
    | is c =>
      refine xb_if (Ct M B' S_0 H_0 [.ty (tRd z0), .ty (tMs ms), .ty (tRow vs), .own P (.dT (rdT z)), .ty (tMk (.is c)), .ty (tVl v), .ty (tBl (decide (c = v)))]) (xt_is (y := true) (xt_isIs (x_var 4) x_int (x_str0 b.IS)) rfl) (fun _ => xb_set 6 (x_eqE encVl (x_ixT (n := 1) (x_var 4) x_int rfl) (x_var 5)) (xb_nil fun _ _ h => h)) (fun h => nomatch h) ?_
      cases e : decide (c = v) with
      | true =>
        refine xb_when (xt_notB (x := true) (xt_bl (x_var 6))) (fun h => nomatch h) fun _ => xb_nil fun σ H ct => ⟨z, ⟨hz, ?_⟩, ct.forget⟩
        rw [hr, show (stepR z (.is c) v).2 = decide (c = v) from rfl, e, if_pos rfl]
        rfl
      | false =>
        refine xb_when (xt_notB (x := false) (xt_bl (x_var 6))) (fun _ => xb_rt x_non ?_) fun h => nomatch h
        rw [show (stepR z (.is c) v).2 = decide (c = v) from rfl, e, if_neg Bool.false_ne_true] at hr
        show Sub tNon (tOpt tRd (readOn z0 ms vs))
        rw [hr]
        exact Sub.rfl'
    | any k =>
      have hk : k < 64 := h2 k (List.mem_of_getElem? hq.1)
      have hz' := hz.setd hk v
      refine xb_if (Ct M B' S_0 H_0 [.ty (tRd z0), .ty (tMs ms), .ty (tRow vs), .own P (.dT (rdT (setdA z k v))), .ty (tMk (.any k)), .ty (tVl v), .ty (tBl (decide ((valA z k).getD v = v)))]) (xt_is (y := false) (xt_isIs (x_var 4) x_int (x_str0 b.IS)) rfl) (fun h => nomatch h) (fun _ => ?_) ?_
      · refine xb_setd 3 6 (c := .dT (rdT z)) (c' := .dT (rdT (setdA z k v))) (p := P) (t := tVl ((valA z k).getD v)) (u := tVl v) rfl (fun X A => ?_) (encVl.isD _) (encVl.isD _) (encVl.dt _) (encVl.dt _) (x_var 5) (xb_nil fun _ _ h => ?_)
        · rw [← setdA_rd, ← gdm]
          exact pe_setdT (kvs := rdT z) (k := kA k) (u := tVl v) 3 rfl (x_var 4) (x_var 5) (by unfold rdT; rw [List.length_map]; omega) rfl (Or.inl rfl) (by decide) (by decide) (fun X => ⟨rfl, rfl, rfl, rfl⟩) A
        · rw [encVl.eqv] at h
          exact h
      · cases e : decide ((valA z k).getD v = v) with
        | true =>
          refine xb_when (xt_notB (x := true) (xt_bl (x_var 6))) (fun h => nomatch h) fun _ => xb_nil fun σ H ct => ⟨setdA z k v, ⟨hz', ?_⟩, ct.forget⟩
          rw [hr, show (stepR z (.any k) v).2 = decide ((valA z k).getD v = v) from rfl, e, if_pos rfl]
          rfl
        | false =>
          refine xb_when (xt_notB (x := false) (xt_bl (x_var 6))) (fun _ => xb_rt x_non ?_) fun h => nomatch h
          rw [show (stepR z (.any k) v).2 = decide ((valA z k).getD v = v) from rfl, e, if_neg Bool.false_ne_true] at hr
          show Sub tNon (tOpt tRd (readOn z0 ms vs))
          rw [hr]
          exact Sub.rfl'
  · rw [hlen] at hr
    rw [readOn_end (Nat.le_refl _)] at hr
    refine xb_frz 3 rfl (xb_rt (x_var 3) ?_)
    show Sub (tRd z) (tOpt tRd (readOn z0 ms vs))
    rw [hr]
    exact Sub.rfl'
end Z
end

section
/-! T8: value_read, readings_on. -/
namespace Z
open PySem PySem.Spec L2 PySem.W ZL
variable {g : Gc}
def valM (z : Rd) : Mark → Option Vl
  | .is c => some c
  | .any k => valA z k
theorem ok_value_read (b : Gb g) (F : Df g "value_read" (top 44)) : Fn g "value_read" 1 (Spp (fun q : { q : Rd × Mark × Vl // valM q.1 q.2.1 = some q.2.2 } => [tRd q.1.1, tMk q.1.2.1]) (fun q => tVl q.1.2.2)) := by
  refine fn_mk (N := ["reading", "mark"]) (ps := ["reading", "mark"]) F ⟨rfl, rfl, rfl, by decide +kernel, rfl, by decide +kernel, by decide +kernel⟩ (fun _ => rfl) (by decide) (hb2 fun _ _ _ _ _ _ _ _ => rfl) (fun _ _ _ h => h) fun q M S_0 H_0 _ => ?_
  obtain ⟨⟨z, m, v⟩, h⟩ := q
  cases m with
  | is c =>
    have e : c = v := Option.some.inj h
    subst e
    exact xb_when (xt_is (y := true) (xt_isIs (x_var 1) x_int (x_str0 b.IS)) rfl) (fun _ => xb_rt (x_ixT (n := 1) (x_var 1) x_int rfl) Sub.rfl') fun h => nomatch h
  | any k =>
    have e : valA (rdT z) (kA k) = some (tVl v) := by
      rw [valA_rd, show valA z k = some v from h]
      rfl
    exact xb_when (xt_is (y := false) (xt_isIs (x_var 1) x_int (x_str0 b.IS)) rfl) (fun h => nomatch h) fun _ => xb_rt' (x_getT (x_var 0) (x_var 1) e)
def readingsOn (zs : List Rd) (ms : List Mark) (rows : List Row) : List Rd := zs.flatMap fun z => rows.filterMap fun r => readOn z ms r
abbrev FnReadOn (g : Gc) := Fn g "read_on" 1 (Spp (fun q : Ro => [tRd q.1.1, tMs q.1.2.1, tRow q.1.2.2]) (fun q => tOpt tRd (readOn q.1.1 q.1.2.1 q.1.2.2)))
abbrev Rso := { q : List Rd × List Mark × List Row // (∀ z ∈ q.1, RdOk z) ∧ MkOk q.2.1 ∧ q.1.length * q.2.2.length ≤ 50000 }
def tRds (zs : List Rd) : Ty := tLs (zs.map tRd)
theorem flat_len {α β : Type} {f : α → List β} {n : Nat} (h : ∀ x, (f x).length ≤ n) : ∀ xs : List α, (xs.flatMap f).length ≤ xs.length * n
  | [] => by simp
  | x :: xs => by
    rw [List.flatMap_cons, List.length_append, List.length_cons, Nat.succ_mul]
    have := h x
    have := flat_len h xs
    omega
theorem ok_readings_on (b : Gb g) (F : Df g "readings_on" (top 42)) (F1 : FnReadOn g) : Fn g "readings_on" 2 (Spp (fun q : Rso => [tRds q.1.1, tMs q.1.2.1, tRows q.1.2.2]) (fun q => tRds (readingsOn q.1.1 q.1.2.1 q.1.2.2))) := by
  refine fn_mk (N := ["readings", "marks", "rows", "found", "reading", "row", "longer"]) (ps := ["readings", "marks", "rows"]) F ⟨rfl, rfl, rfl, by decide +kernel, rfl, by decide +kernel, by decide +kernel⟩ (fun _ => rfl) (by decide) (hb3 fun _ _ _ _ _ _ _ _ _ => rfl) (fun _ _ _ h => h) fun q M S_0 H_0 _ => ?_
  obtain ⟨⟨zs, ms, rows⟩, h1, h2, h3⟩ := q
  have h1 : ∀ z ∈ zs, RdOk z := h1
  have h2 : MkOk ms := h2
  have h3 : zs.length * rows.length ≤ 50000 := h3
  refine xb_newL 3 fun P => ?_
  refine xb_for (ts := zs.map tRd) (fun i (_ : Unit) => True) (fun i _ => [.ty (tRds zs), .ty (tMs ms), .ty (tRows rows), .own P (.lst ((readingsOn (zs.take i) ms rows).map tRd)), .unk, .unk, .unk]) (G1 := fun i _ => match zs[i]? with
    | some z => [.ty (tRds zs), .ty (tMs ms), .ty (tRows rows), .own P (.lst ((readingsOn (zs.take i) ms rows).map tRd)), .ty (tRd z), .unk, .unk]
    | none => []) (vs := [4]) (xi_list (x_var 0)) () trivial rfl (fun i _ t hit _ => ?_) (fun i _ t B' hit _ _ => ?_) fun _ _ => ?_
  · obtain ⟨z, hz, _, rfl⟩ := map_get hit
    rw [hz]
    exact xg_name 4
  · obtain ⟨z, hz, hm, rfl⟩ := map_get hit
    rw [hz]
    have bound : ∀ ys : List Row, ys.length ≤ rows.length → (readingsOn (zs.take i) ms rows ++ ys.filterMap fun r => readOn z ms r).length ≤ 50000 := fun ys hy => by
      have a1 : (readingsOn (zs.take i) ms rows).length ≤ (zs.take i).length * rows.length := flat_len (fun z => List.length_filterMap_le ..) _
      have a2 := List.length_filterMap_le (fun r => readOn z ms r) ys
      have hi := (List.getElem?_eq_some_iff.mp hz).1
      rw [List.length_take] at a1
      have a3 : (min i zs.length + 1) * rows.length ≤ zs.length * rows.length := Nat.mul_le_mul_right _ (by omega)
      rw [Nat.succ_mul] at a3
      rw [List.length_append]
      omega
    refine xb_for (ts := rows.map tRow) (fun j (_ : Unit) => True) (fun j _ => [.ty (tRds zs), .ty (tMs ms), .ty (tRows rows), .own P (.lst ((readingsOn (zs.take i) ms rows ++ (rows.take j).filterMap fun r => readOn z ms r).map tRd)), .ty (tRd z), .unk, .unk]) (G1 := fun j _ => match rows[j]? with
      | some r => [.ty (tRds zs), .ty (tMs ms), .ty (tRows rows), .own P (.lst ((readingsOn (zs.take i) ms rows ++ (rows.take j).filterMap fun r => readOn z ms r).map tRd)), .ty (tRd z), .ty (tRow r), .unk]
      | none => []) (vs := [5]) (xi_tup (x_var 2)) () trivial (by rw [List.take_zero, List.filterMap_nil, List.append_nil]) (fun j _ t hit _ => ?_) (fun j _ t B2 hit2 _ _ => ?_) fun _ _ => ?_
    · obtain ⟨r, hr, _, rfl⟩ := map_get hit
      rw [hr]
      exact xg_name 5
    · obtain ⟨r, hr, _, rfl⟩ := map_get hit2
      rw [hr]
      refine xb_set 6 (x_callI F1 ⟨(z, ms, r), h1 z hm, h2⟩ (xa_3 (x_var 4) (x_var 1) (x_var 5)) trivial) ?_
      rw [take_succ_get hr, List.filterMap_append]
      have hb := bound (rows.take j) (by rw [List.length_take]; omega)
      cases e : readOn z ms r with
      | none =>
        have e1 : [r].filterMap (fun r => readOn z ms r) = [] := by rw [List.filterMap_cons, e]; rfl
        rw [e1, List.append_nil]
        exact xb_if (fun σ H => Ct M B2 S_0 H_0 [.ty (tRds zs), .ty (tMs ms), .ty (tRows rows), .own P (.lst ((readingsOn (zs.take i) ms rows ++ (rows.take j).filterMap fun r => readOn z ms r).map tRd)), .ty (tRd z), .unk, .unk] σ H) (xt_is (y := false) (xt_notN (v := .non) (x_var 6)) (by rfl)) (fun h => nomatch h) (fun _ => xb_nil fun σ H ct => ct.forget) (xb_nil fun σ H ct => ⟨(), trivial, ct⟩)
      | some z' =>
        have e1 : [r].filterMap (fun r => readOn z ms r) = [z'] := by rw [List.filterMap_cons, e]; rfl
        rw [e1, ← List.append_assoc]
        refine xb_if (fun σ H => Ct M B2 S_0 H_0 [.ty (tRds zs), .ty (tMs ms), .ty (tRows rows), .own P (.lst (((readingsOn (zs.take i) ms rows ++ (rows.take j).filterMap fun r => readOn z ms r) ++ [z']).map tRd)), .ty (tRd z), .unk, .unk] σ H) (xt_notN0 notN_dT (x_var 6)) (fun _ => ?_) (fun h => nomatch h) (xb_nil fun σ H ct => ⟨(), trivial, ct⟩)
        rw [List.map_append (l₂ := [z'])]
        exact xb_app 3 rfl (x_var 6) (by rw [List.length_map]; omega) (xb_nil fun σ H ct => ct.forget)
    · rw [List.length_map, List.take_length, take_succ_get hz]
      refine xb_nil fun σ H ct => ⟨(), trivial, ?_⟩
      have e : readingsOn (zs.take i ++ [z]) ms rows = readingsOn (zs.take i) ms rows ++ rows.filterMap fun r => readOn z ms r := by
        unfold readingsOn
        rw [List.flatMap_append]
        simp
      rw [e]
      exact ct.forget
  · rw [List.length_map, List.take_length]
    exact xb_frz 3 rfl (xb_rt' (x_var 3))
end Z
end

section
/-! T9: rows_read. -/
namespace Z
open PySem PySem.Spec L2 PySem.W ZL
variable {g : Gc}
theorem build_get {α κ β : Type} [DecidableEq κ] {f : α → κ} {U : α → β} : ∀ {xs : List α}, (xs.map f).Nodup → ∀ x ∈ xs, valA (buildA f U xs) (f x) = some (U x) := by
  intro xs
  induction xs using snocInd with
  | h0 => intro _ x hx; cases hx
  | hs xs y ih =>
    intro hn x hx
    rw [List.map_append, List.nodup_append] at hn
    rw [buildA_snoc]
    have hy : f y ∉ (buildA f U xs).map (·.1) := fun h => by
      have := ((buildA_keys (key := f) (val := U) xs).2 _).mp h
      exact hn.2.2 _ this _ (by simp) rfl
    have e : putA (buildA f U xs) (f y) (U y) = buildA f U xs ++ [(f y, U y)] := by
      unfold putA
      rw [if_neg]
      intro h
      rw [List.any_eq_true] at h
      obtain ⟨q, hq, h⟩ := h
      exact hy (List.mem_map.mpr ⟨q, hq, of_decide_eq_true h⟩)
    rw [e]
    have app : ∀ (l : List (κ × β)) (k : κ) (v : β) (j : κ), valA (l ++ [(k, v)]) j = match valA l j with | some w => some w | none => if k = j then some v else none := by
      intro l k v j
      induction l with
      | nil => show valA [(k, v)] j = _; rw [valA_cons]; rfl
      | cons q l ih =>
        obtain ⟨a, w⟩ := q
        show valA ((a, w) :: (l ++ [(k, v)])) j = _
        rw [valA_cons, valA_cons, ih]
        by_cases e : a = j
        · rw [if_pos e, if_pos e]
        · rw [if_neg e, if_neg e]
    rw [app]
    rcases List.mem_append.mp hx with h | h
    · rw [ih hn.1 x h]
    · have ex : x = y := by simpa using h
      subst ex
      cases q : valA (buildA f U xs) (f x) with
      | none => rw [if_pos rfl]
      | some w =>
        exfalso
        apply hy
        have : ∀ (l : List (κ × β)) (k : κ) (w : β), valA l k = some w → k ∈ l.map (·.1) := by
          intro l k w h
          induction l with
          | nil => cases h
          | cons q l ih =>
            obtain ⟨a, v⟩ := q
            rw [valA_cons] at h
            by_cases e : a = k
            · rw [← e]; exact List.mem_cons_self ..
            · rw [if_neg e] at h; exact List.mem_cons_of_mem _ (ih h)
        exact this _ _ _ q
def v0 : Vl := ⟨.inl 0, rfl⟩
def rowsOf (b : Book) (n : Nm) : List Row := match b.find? fun t => decide (t.1 = n) with
  | some t => t.2.2
  | none => []
def readsAll (b : Book) (ls : List Line) : List Rd := ls.foldl (fun zs l => readingsOn zs l.2 (rowsOf b l.1)) [[]]
def rowsRead (s : Sheet) (b : Book) : List Row := (readsAll b s.2).map fun z => s.1.map fun m => (valM z m).getD v0
theorem readOn_ok {z z' : Rd} {ms : List Mark} {vs : List Vl} (h : RdOk z) (hm : MkOk ms) (e : readOn z ms vs = some z') : RdOk z' := by
  induction ms generalizing z vs with
  | nil => cases vs <;> (cases e; exact h)
  | cons m ms ih =>
    cases vs with
    | nil => cases e; exact h
    | cons v vs =>
      unfold readOn at e
      split at e
      · have h2 : RdOk (stepR z m v).1 := by
          cases m with
          | is c => exact h
          | any k => exact h.setd (hm k (List.mem_cons_self ..)) v
        exact ih h2 (fun k hk => hm k (List.mem_cons_of_mem _ hk)) e
      · cases e
theorem readingsOn_ok {zs : List Rd} {ms : List Mark} {rows : List Row} (h : ∀ z ∈ zs, RdOk z) (hm : MkOk ms) : ∀ z ∈ readingsOn zs ms rows, RdOk z := fun z hz => by
  obtain ⟨y, hy, h2⟩ := List.mem_flatMap.mp hz
  obtain ⟨r, _, e⟩ := List.mem_filterMap.mp h2
  exact readOn_ok (h y hy) hm e
theorem readsAll_snoc {b : Book} {ls : List Line} {l : Line} : readsAll b (ls ++ [l]) = readingsOn (readsAll b ls) l.2 (rowsOf b l.1) := by
  unfold readsAll
  rw [List.foldl_append]
  rfl
theorem nodup_map_eq {α β : Type} {f : α → β} {l : List α} (hn : (l.map f).Nodup) {s t : α} (hs : s ∈ l) (ht : t ∈ l) (e : f s = f t) : s = t := by
  induction l with
  | nil => cases hs
  | cons x l ih =>
    rw [List.map_cons, List.nodup_cons] at hn
    rcases List.mem_cons.mp hs with rfl | h1 <;> rcases List.mem_cons.mp ht with rfl | h2
    · rfl
    · exact absurd (by rw [e]; exact List.mem_map_of_mem h2) hn.1
    · exact absurd (by rw [← e]; exact List.mem_map_of_mem h1) hn.1
    · exact ih hn.2 h1 h2
theorem rowsOf_mem {b : Book} (hn : (b.map (·.1)).Nodup) {t : Tab} (ht : t ∈ b) : rowsOf b t.1 = t.2.2 := by
  unfold rowsOf
  cases e : b.find? fun s => decide (s.1 = t.1) with
  | none => exact absurd (List.find?_eq_none.mp e t ht) (by simp)
  | some s =>
    have h1 := of_decide_eq_true (List.find?_some (p := fun s : Tab => decide (s.1 = t.1)) e)
    have h2 := List.mem_of_find?_eq_some e
    have : s = t := nodup_map_eq hn h2 ht h1
    rw [this]
/-- a sheet that can be read in a book -/
structure ReadOk (s : Sheet) (b : Book) : Prop where
  nd : (b.map (·.1)).Nodup
  bl : b.length ≤ 1000
  few : ∀ t ∈ b, t.2.2.length ≤ 6
  ln : s.2.length ≤ 5
  nm : ∀ l ∈ s.2, l.1 ∈ b.map (·.1)
  mko : ∀ l ∈ s.2, MkOk l.2
  hd : s.1.length ≤ 1000
  cov : ∀ z ∈ readsAll b s.2, ∀ m ∈ s.1, (valM z m).isSome = true
theorem pow_le {i : Nat} (h : i ≤ 5) : 6 ^ i ≤ 7776 := by
  have : 6 ^ i ≤ 6 ^ 5 := Nat.pow_le_pow_right (by decide) h
  exact this
theorem ReadOk.count {s : Sheet} {b : Book} (h : ReadOk s b) : ∀ i, i ≤ s.2.length → (readsAll b (s.2.take i)).length ≤ 6 ^ i ∧ ∀ z ∈ readsAll b (s.2.take i), RdOk z := by
  intro i
  induction i with
  | zero => intro _; exact ⟨by simp [readsAll], fun z hz => by
      have : z = [] := by simpa [readsAll] using hz
      subst this
      exact ⟨List.nodup_nil, fun k hk => by cases hk⟩⟩
  | succ i ih =>
    intro hi
    obtain ⟨h1, h2⟩ := ih (by omega)
    have hl : s.2[i]? = some s.2[i] := List.getElem?_eq_getElem (by omega)
    have hm := List.mem_of_getElem? hl
    rw [take_succ_get hl, readsAll_snoc]
    refine ⟨?_, readingsOn_ok h2 (h.mko _ hm)⟩
    obtain ⟨t, ht, e⟩ := List.mem_map.mp (h.nm _ hm)
    have e6 : (rowsOf b s.2[i].1).length ≤ 6 := by rw [← e, rowsOf_mem h.nd ht]; exact h.few t ht
    have a1 : (readingsOn (readsAll b (s.2.take i)) s.2[i].2 (rowsOf b s.2[i].1)).length ≤ _ := flat_len (n := 6) (fun z => Nat.le_trans (List.length_filterMap_le ..) e6) _
    rw [Nat.pow_succ]
    exact Nat.le_trans a1 (Nat.mul_le_mul_right 6 h1)
abbrev FnReads (g : Gc) := Fn g "rows_read" 5 (Spp (fun q : { q : Sheet × Book // ReadOk q.1 q.2 } => [tSh q.1.1, tBk q.1.2]) (fun q => tEx (Same (rowsRead q.1.1 q.1.2)) tRows))
theorem ok_rows_read (b : Gb g) (F : Df g "rows_read" (top 45)) (F1 : Fn g "readings_on" 2 (Spp (fun q : Rso => [tRds q.1.1, tMs q.1.2.1, tRows q.1.2.2]) (fun q => tRds (readingsOn q.1.1 q.1.2.1 q.1.2.2))))
    (F2 : Fn g "value_read" 1 (Spp (fun q : { q : Rd × Mark × Vl // valM q.1 q.2.1 = some q.2.2 } => [tRd q.1.1, tMk q.1.2.1]) (fun q => tVl q.1.2.2))) (F3 : Fn g "risen" 4 (Spp (fun xs : Rows => [tLs (xs.1.map tRow)]) (fun xs => tEx (Same xs.1) tRows))) : FnReads g := by
  refine fn_mk (N := ["sheet", "book", "head", "lines", "tables", "readings", "name", "columns", "rows", "marks", "reading", "mark"]) (ps := ["sheet", "book"]) F ⟨rfl, rfl, rfl, by decide +kernel, rfl, by decide +kernel, by decide +kernel⟩ (fun _ => rfl) (by decide) (hb2 fun _ _ _ _ _ _ _ _ => rfl) (fun _ _ _ h => h) fun q M S_0 H_0 _ => ?_
  obtain ⟨⟨⟨hd, ls⟩, k⟩, h⟩ := q
  have h : ReadOk (hd, ls) k := h
  refine xb_asg (vs := [2, 3]) (x_var 0) (xg_tup (xgs_cons (xg_name 2) (xgs_cons (xg_name 3) xgs_nil))) ?_
  refine xb_setC 4 (xsc_K 4 (own := [("name", 6), ("columns", 7), ("rows", 8)]) (vs := [6, 7, 8]) (T := tTab) (U := fun t : Tab => tRows t.2.2) (key' := fun t : Tab => .inr t.1.1) (G1 := fun t => [.ty (tSh (hd, ls)), .ty (tBk k), .ty (tMs hd), .ty (tLns ls), .unk, .unk, .ty (tNm t.1), .ty (tNt t.2.1), .ty (tRows t.2.2), .unk, .unk, .unk]) rfl (xi_tup (x_var 1)) (blkOk_by (by decide +kernel)) (Nat.le_trans h.bl (by decide))
    (fun D t _ => xg_tup (xgs_cons (xg_name 6) (xgs_cons (xg_name 7) (xgs_cons (xg_name 8) xgs_nil)))) (fun D t _ => x_var 6) (fun D t _ => x_var 8)) ?_
  refine xb_set 5 (t := tRds [[]]) (x_lst (xa_1 (x_sub (xf_x xf_dT) fun S v ⟨_, _, z⟩ => z))) ?_
  refine xb_for (ts := ls.map tLn) (fun i (zs : List Rd) => zs = readsAll k (ls.take i)) (fun i zs => [.ty (tSh (hd, ls)), .ty (tBk k), .ty (tMs hd), .ty (tLns ls), .ty (tDK (buildA (fun t : Tab => .inr t.1.1) (fun t => tRows t.2.2) k)), .ty (tRds zs), .unk, .unk, .unk, .unk, .unk, .unk]) (G1 := fun i zs => match ls[i]? with
    | some l => [.ty (tSh (hd, ls)), .ty (tBk k), .ty (tMs hd), .ty (tLns ls), .ty (tDK (buildA (fun t : Tab => .inr t.1.1) (fun t => tRows t.2.2) k)), .ty (tRds zs), .ty (tNm l.1), .unk, .unk, .ty (tMs l.2), .unk, .unk]
    | none => []) (vs := [6, 9]) (xi_tup (x_var 3)) [[]] rfl rfl (fun i zs t hit _ => ?_) (fun i zs t B' hit hz _ => ?_) fun zs hz => ?_
  · obtain ⟨l, hl, _, rfl⟩ := map_get hit
    rw [hl]
    exact xg_tup (xgs_cons (xg_name 6) (xgs_cons (xg_name 9) xgs_nil))
  · obtain ⟨l, hl, hm, rfl⟩ := map_get hit
    rw [hl]
    have hi : i < ls.length := (List.getElem?_eq_some_iff.mp hl).1
    obtain ⟨c1, c2⟩ := h.count i (Nat.le_of_lt hi)
    have c1 : (readsAll k (ls.take i)).length ≤ 6 ^ i := c1
    have c2 : ∀ z ∈ readsAll k (ls.take i), RdOk z := c2
    rw [← hz] at c1 c2
    obtain ⟨t, ht, e⟩ := List.mem_map.mp (h.nm l hm)
    have er : rowsOf k l.1 = t.2.2 := by rw [← e, rowsOf_mem h.nd ht]
    have nd : (k.map fun t : Tab => (.inr t.1.1 : Key)).Nodup := by
      have := h.nd
      rw [show (k.map fun t : Tab => (.inr t.1.1 : Key)) = (k.map (·.1)).map fun n : Nm => (.inr n.1 : Key) by rw [List.map_map]; rfl]
      exact List.pairwise_map.mpr (this.imp fun hne e => hne (Subtype.ext (Sum.inr.inj e)))
    have hg := build_get (f := fun t : Tab => (.inr t.1.1 : Key)) (U := fun t : Tab => tRows t.2.2) nd t ht
    have p5 : 6 ^ i ≤ 6 ^ 4 := Nat.pow_le_pow_right (by decide) (by have : ls.length ≤ 5 := h.ln; omega)
    have few := h.few t ht
    have bd : zs.length * t.2.2.length ≤ 50000 := by
      have := Nat.mul_le_mul (Nat.le_trans c1 p5) few
      omega
    refine xb_set 5 (t := tRds (readingsOn zs l.2 t.2.2)) (x_callI F1 ⟨(zs, l.2, t.2.2), c2, h.mko l hm, bd⟩ (xa_3 (x_var 5) (x_var 9) (x_getK (k := .inr t.1.1) (x_var 4) (x_ty (t := tNm l.1) (x_var 6) (by rw [← e]; rfl)) hg)) trivial) (xb_nil fun σ H ct => ⟨readingsOn zs l.2 t.2.2, ?_, ct.forget⟩)
    rw [take_succ_get hl, readsAll_snoc, er, hz]
  · rw [List.length_map, List.take_length] at hz
    obtain ⟨c1, c2⟩ := h.count ls.length (Nat.le_refl _)
    rw [show (hd, ls).2 = ls from rfl, List.take_length, ← hz] at c1 c2
    have c3 := Nat.le_trans c1 (pow_le h.ln)
    have cov : ∀ z ∈ zs, ∀ m ∈ hd, (valM z m).isSome = true := by rw [hz]; exact h.cov
    have hl : hd.length ≤ 1000 := h.hd
    have er : rowsRead (hd, ls) k = zs.map fun z => hd.map fun m => (valM z m).getD v0 := by rw [hz]; rfl
    refine xb_rt' (x_callI F3 ⟨rowsRead (hd, ls) k, ?_, ?_⟩ (xa_1 (x_ty (x_lcA (own := [("reading", 10)]) (vs := [10]) (T := tRd) (U := fun z => tRow (hd.map fun m => (valM z m).getD v0)) (G1 := fun z => [.ty (tSh (hd, ls)), .ty (tBk k), .ty (tMs hd), .ty (tLns ls), .ty (tDK (buildA (fun t : Tab => .inr t.1.1) (fun t => tRows t.2.2) k)), .ty (tRds zs), .unk, .unk, .unk, .unk, .ty (tRd z), .unk]) (xi_list (x_var 5)) rfl (blkOk_by (by decide +kernel)) (by omega) (fun z _ => xg_name 10) fun z hzm => ?_) ?_)) trivial)
    · rw [er, List.length_map]; omega
    · intro r hr
      rw [er] at hr
      obtain ⟨z, _, rfl⟩ := List.mem_map.mp hr
      rw [List.length_map]
      exact hl
    · refine x_ty (x_tupL (x_lcA (own := [("mark", 11)]) (vs := [11]) (T := tMk) (U := fun m => tVl ((valM z m).getD v0)) (G1 := fun m => [.ty (tSh (hd, ls)), .ty (tBk k), .ty (tMs hd), .ty (tLns ls), .ty (tDK (buildA (fun t : Tab => .inr t.1.1) (fun t => tRows t.2.2) k)), .ty (tRds zs), .unk, .unk, .unk, .unk, .ty (tRd z), .ty (tMk m)]) (xi_tup (x_var 2)) rfl (blkOk_by (by decide +kernel)) (by omega) (fun m _ => xg_name 11) fun m hm => ?_) b.tuple) ?_
      · have hs := cov z hzm m hm
        have e : valM z m = some ((valM z m).getD v0) := by cases q : valM z m with
          | none => rw [q] at hs; cases hs
          | some v => rfl
        exact x_callI F2 ⟨(z, m, (valM z m).getD v0), e⟩ (xa_2 (x_var 10) (x_var 11)) trivial
      · unfold tRow
        rw [List.map_map]
        rfl
    · show _ = tLs ((rowsRead (hd, ls) k).map tRow)
      rw [er, List.map_map]
      rfl
end Z
end

section
/-! T10: put_by, led_on. -/
namespace Z
open PySem PySem.Spec L2 PySem.W ZL
variable {g : Gc}
def putM (th : List Mark) : Mark → Mark
  | .is c => .is c
  | .any k => th.getD k (.any k)
def putBy (th ms : List Mark) : List Mark := ms.map (putM th)
def Under (n : Nat) (ms : List Mark) : Prop := ∀ k, Mark.any k ∈ ms → k < n
abbrev Pb := { q : List Mark × List Mark // Under q.1.length q.2 ∧ q.2.length ≤ 1000 }
theorem ok_put_by (b : Gb g) (F : Df g "put_by" (top 47)) : Fn g "put_by" 1 (Spp (fun q : Pb => [tMs q.1.1, tMs q.1.2]) (fun q => tMs (putBy q.1.1 q.1.2))) := by
  refine fn_mk (N := ["likeness", "marks", "found", "mark"]) (ps := ["likeness", "marks"]) F ⟨rfl, rfl, rfl, by decide +kernel, rfl, by decide +kernel, by decide +kernel⟩ (fun _ => rfl) (by decide) (hb2 fun _ _ _ _ _ _ _ _ => rfl) (fun _ _ _ h => h) fun q M S_0 H_0 _ => ?_
  obtain ⟨⟨th, ms⟩, h1, h2⟩ := q
  have h2 : ms.length ≤ 1000 := h2
  refine xb_newL 2 fun P => ?_
  refine xb_for (ts := ms.map tMk) (fun i (_ : Unit) => True) (fun i _ => [.ty (tMs th), .ty (tMs ms), .own P (.lst (((ms.take i).map (putM th)).map tMk)), .unk]) (G1 := fun i _ => match ms[i]? with
    | some m => [.ty (tMs th), .ty (tMs ms), .own P (.lst (((ms.take i).map (putM th)).map tMk)), .ty (tMk m)]
    | none => []) (vs := [3]) (xi_tup (x_var 1)) () trivial rfl (fun i _ t hit _ => ?_) (fun i _ t B' hit _ _ => ?_) fun _ _ => ?_
  · obtain ⟨m, hm, _, rfl⟩ := map_get hit
    rw [hm]
    exact xg_name 3
  · obtain ⟨m, hm, hmem, rfl⟩ := map_get hit
    rw [hm]
    refine xb_if (Ct M B' S_0 H_0 [.ty (tMs th), .ty (tMs ms), .own P (.lst (((ms.take i).map (putM th)).map tMk)), .ty (tMk (putM th m))]) (xt_isAny (x_var 3) x_int (x_str0 b.ANY)) (fun ha => ?_) (fun ha => ?_) ?_
    · cases m with
      | is c => cases ha
      | any k =>
        have hk : k < th.length := h1 k hmem
        have e : putM th (.any k) = th[k] := by show th.getD k _ = _; rw [List.getD_eq_getElem?_getD, List.getElem?_eq_getElem hk]; rfl
        rw [e]
        exact xb_set 3 (x_ixT (n := k) (x_var 0) (x_ixT (n := 1) (x_var 3) x_int rfl) (by rw [List.getElem?_map, List.getElem?_eq_getElem hk]; rfl)) (xb_nil fun _ _ h => h)
    · cases m with
      | is c => exact xb_nil fun _ _ h => h
      | any k => cases ha
    · refine xb_app 2 rfl (x_var 3) (by rw [List.length_map, List.length_map, List.length_take]; omega) (xb_nil fun σ H ct => ⟨(), trivial, ?_⟩)
      have e : ((ms.take (i + 1)).map (putM th)).map tMk = ((ms.take i).map (putM th)).map tMk ++ [tMk (putM th m)] := by
        rw [take_succ_get hm, List.map_append, List.map_append]
        rfl
      rw [e]
      exact ct.forget
  · rw [List.length_map, List.take_length]
    exact xb_frz 2 rfl (xb_rt' (x_tupL (x_var 2) b.tuple))

/-! led_on -/
abbrev Pl := List (Nat × Mark)
def stepP (z : Pl) : Mark → Mark → Pl × Bool
  | .is c, o => (z, decide (Mark.is c = o))
  | .any k, o => (setdA z k o, decide ((valA z k).getD o = o))
def ledGo : Pl → List Mark → List Mark → Option Pl
  | z, m :: ms, o :: os => if (stepP z m o).2 = true then ledGo (stepP z m o).1 ms os else none
  | z, [], _ => some z
  | z, _ :: _, [] => some z
def ledOn (z : Pl) (ms os : List Mark) : Option Pl := if ms.length = os.length then ledGo z ms os else none
def plT (z : Pl) : List (Key × Ty) := z.map fun q => (.inl (q.1 : Int), tMk q.2)
def tPl (z : Pl) : Ty := tDK (plT z)
theorem kI_inj {a b : Nat} (h : (Sum.inl (a : Int) : Key) = .inl (b : Int)) : a = b := by
  have := Sum.inl.inj h
  omega
theorem valA_pl (z : Pl) (k : Nat) : valA (plT z) (.inl (k : Int)) = (valA z k).map tMk := by
  induction z with
  | nil => rfl
  | cons q z ih =>
    obtain ⟨j, v⟩ := q
    show valA ((.inl (j : Int), tMk v) :: plT z) _ = _
    rw [valA_cons, valA_cons]
    by_cases e : j = k
    · rw [if_pos e, if_pos (by rw [e])]; rfl
    · rw [if_neg e, if_neg fun h => e (kI_inj h), ih]
theorem setdA_pl (z : Pl) (k : Nat) (v : Mark) : setdA (plT z) (.inl (k : Int)) (tMk v) = plT (setdA z k v) := by
  unfold setdA
  rw [valA_pl]
  cases e0 : valA z k with
  | some w => rfl
  | none =>
    show putA (plT z) _ _ = plT (putA z k v)
    unfold putA
    have e : ((plT z).any fun q => decide (q.1 = (.inl (k : Int) : Key))) = z.any fun q => decide (q.1 = k) := by
      unfold plT
      rw [List.any_map]
      congr 1
      funext q
      exact decide_eq_decide.mpr ⟨fun h => kI_inj h, fun h => by rw [← h]⟩
    rw [e]
    split
    · unfold plT
      rw [List.map_map, List.map_map]
      apply List.map_congr_left
      intro q _
      show (if (.inl (q.1 : Int) : Key) = .inl (k : Int) then ((.inl (q.1 : Int) : Key), tMk v) else (.inl (q.1 : Int), tMk q.2)) = _
      by_cases h : q.1 = k
      · rw [if_pos (by rw [h])]; simp [h]
      · rw [if_neg fun z => h (kI_inj z)]; simp [h]
    · unfold plT
      rw [List.map_append]
      rfl
structure PlOk (z : Pl) : Prop where
  nd : (z.map (·.1)).Nodup
  lt : ∀ k ∈ z.map (·.1), k < 64
theorem PlOk.setd {z : Pl} (h : PlOk z) {k : Nat} (hk : k < 64) (v : Mark) : PlOk (setdA z k v) := by
  unfold setdA
  cases e : valA z k with
  | some w => exact h
  | none =>
    have hn := valA_none e
    have ek := putA_keys z k v
    rw [if_neg hn] at ek
    refine ⟨by rw [ek, List.nodup_append]; exact ⟨h.nd, by simp, fun a ha b hb q => hn (by rw [← show b = k by simpa using hb, ← q]; exact ha)⟩, fun j hj => ?_⟩
    rw [ek, List.mem_append] at hj
    rcases hj with hj | hj
    · exact h.lt j hj
    · rw [show j = k by simpa using hj]; exact hk
theorem PlOk.len {z : Pl} (h : PlOk z) : z.length ≤ 64 := by
  have h1 := nodup_len (m := List.range 64) h.nd fun k hk => List.mem_range.mpr (h.lt k hk)
  rw [List.length_map, List.length_range] at h1
  exact h1
theorem ledGo_next {z : Pl} {m : Mark} {v : Mark} {ms vs : List Mark} {i : Nat} (hm : ms[i]? = some m) (hv : vs[i]? = some v) : ledGo z (ms.drop i) (vs.drop i) = if (stepP z m v).2 = true then ledGo (stepP z m v).1 (ms.drop (i + 1)) (vs.drop (i + 1)) else none := by
  obtain ⟨h1, e1⟩ := List.getElem?_eq_some_iff.mp hm
  obtain ⟨h2, e2⟩ := List.getElem?_eq_some_iff.mp hv
  rw [List.drop_eq_getElem_cons h1, List.drop_eq_getElem_cons h2, e1, e2]
  rfl
theorem ledGo_end {z : Pl} {ms vs : List Mark} {i : Nat} (h : min ms.length vs.length ≤ i) : ledGo z (ms.drop i) (vs.drop i) = some z := by
  by_cases h1 : ms.length ≤ i
  · rw [List.drop_of_length_le h1]; cases (vs.drop i) <;> rfl
  · rw [List.drop_of_length_le (l := vs) (by omega)]
    cases ms.drop i <;> rfl
theorem ledGo_ok {z z' : Pl} {ms vs : List Mark} (h : PlOk z) (hm : MkOk ms) (e : ledGo z ms vs = some z') : PlOk z' := by
  induction ms generalizing z vs with
  | nil => cases vs <;> (cases e; exact h)
  | cons m ms ih =>
    cases vs with
    | nil => cases e; exact h
    | cons v vs =>
      unfold ledGo at e
      split at e
      · have h2 : PlOk (stepP z m v).1 := by
          cases m with
          | is c => exact h
          | any k => exact h.setd (hm k (List.mem_cons_self ..)) v
        exact ih h2 (fun k hk => hm k (List.mem_cons_of_mem _ hk)) e
      · cases e
theorem ledOn_ok {z z' : Pl} {ms vs : List Mark} (h : PlOk z) (hm : MkOk ms) (e : ledOn z ms vs = some z') : PlOk z' := by
  unfold ledOn at e
  split at e
  · exact ledGo_ok h hm e
  · cases e
abbrev Lo := { q : Pl × List Mark × List Mark // PlOk q.1 ∧ MkOk q.2.1 }
abbrev FnLed (g : Gc) := Fn g "led_on" 1 (Spp (fun q : Lo => [tPl q.1.1, tMs q.1.2.1, tMs q.1.2.2]) (fun q => tOpt tPl (ledOn q.1.1 q.1.2.1 q.1.2.2)))
theorem ok_led_on (b : Gb g) (F : Df g "led_on" (top 49)) : FnLed g := by
  refine fn_mk (N := ["places", "marks", "others", "found", "mark", "other", "fitting"]) (ps := ["places", "marks", "others"]) F ⟨rfl, rfl, rfl, by decide +kernel, rfl, by decide +kernel, by decide +kernel⟩ (fun _ => rfl) (by decide) (hb3 fun _ _ _ _ _ _ _ _ _ => rfl) (fun _ _ _ h => h) fun q M S_0 H_0 _ => ?_
  obtain ⟨⟨z0, ms, vs⟩, h1, h2⟩ := q
  have h1 : PlOk z0 := h1
  have h2 : MkOk ms := h2
  by_cases hl : ms.length = vs.length
  case neg =>
    refine xb_when (xt_is (y := true) (xt_neE encIn (x_lenT (x_var 1) b.len) (x_lenT (x_var 2) b.len)) ?_) (fun _ => xb_rt x_non ?_) fun h => nomatch h
    · rw [List.length_map, List.length_map, decide_eq_false (fun z => hl (Int.ofNat_inj.mp z))]; rfl
    · show Sub tNon (tOpt tPl (ledOn z0 ms vs))
      unfold ledOn
      rw [if_neg hl]
      exact Sub.rfl'
  refine xb_when (xt_is (y := false) (xt_neE encIn (x_lenT (x_var 1) b.len) (x_lenT (x_var 2) b.len)) ?_) (fun h => nomatch h) fun _ => ?_
  · rw [List.length_map, List.length_map, decide_eq_true (by rw [hl])]; rfl
  have eo : ledOn z0 ms vs = ledGo z0 ms vs := by unfold ledOn; rw [if_pos hl]
  refine xb_own 3 (xf_dictK (x_var 0) b.dict) fun _ P _ => ?_
  have ez : zipT (ms.map tMk) (vs.map tMk) = (ms.zip vs).map fun q => tTu [tMk q.1, tMk q.2] := zipT_map ms vs
  have hlen : ((ms.zip vs).map fun q => tTu [tMk q.1, tMk q.2]).length = min ms.length vs.length := by rw [List.length_map, List.length_zip]
  refine xb_for (ts := (ms.zip vs).map fun q => tTu [tMk q.1, tMk q.2]) (fun i z => PlOk z ∧ ledOn z0 ms vs = ledGo z (ms.drop i) (vs.drop i)) (fun i z => [.ty (tPl z0), .ty (tMs ms), .ty (tMs vs), .own P (.dK (plT z)), .unk, .unk, .unk]) (G1 := fun i z => match (ms.zip vs)[i]? with
    | some q => [.ty (tPl z0), .ty (tMs ms), .ty (tMs vs), .own P (.dK (plT z)), .ty (tMk q.1), .ty (tMk q.2), .unk]
    | none => []) (vs := [4, 5]) (by rw [← ez]; exact xi_zipT (x_var 1) (x_var 2) b.zip) z0 ⟨h1, by rw [List.drop_zero, List.drop_zero, eo]⟩ rfl (fun i z t hit _ => ?_) (fun i z t B' hit ⟨hz, hr⟩ _ => ?_) fun z ⟨hz, hr⟩ => ?_
  · obtain ⟨q, hq, _, rfl⟩ := map_get hit
    rw [hq]
    exact xg_tup (xgs_cons (xg_name 4) (xgs_cons (xg_name 5) xgs_nil))
  · obtain ⟨q, hq, hmem, rfl⟩ := map_get hit
    rw [hq]
    obtain ⟨m, v⟩ := q
    rw [List.getElem?_zip_eq_some] at hq
    have hnext := ledGo_next (z := z) hq.1 hq.2
    rw [hnext] at hr
    have hlz := hz.len
    have gdm : ∀ k : Nat, ((valA (plT z) (.inl (k : Int))).getD (tMk v)) = tMk ((valA z k).getD v) := fun k => by
      rw [valA_pl]
      cases valA z k <;> rfl
    cases m with
    | is c =>
      refine xb_if (Ct M B' S_0 H_0 [.ty (tPl z0), .ty (tMs ms), .ty (tMs vs), .own P (.dK (plT z)), .ty (tMk (.is c)), .ty (tMk v), .ty (tBl (decide (Mark.is c = v)))]) (xt_is (y := true) (xt_isIs (x_var 4) x_int (x_str0 b.IS)) rfl) (fun _ => xb_set 6 (x_eqE encMk (x_var 4) (x_var 5)) (xb_nil fun _ _ h => h)) (fun h => nomatch h) ?_
      cases e : decide (Mark.is c = v) with
      | true =>
        refine xb_when (xt_notB (x := true) (xt_bl (x_var 6))) (fun h => nomatch h) fun _ => xb_nil fun σ H ct => ⟨z, ⟨hz, ?_⟩, ct.forget⟩
        rw [hr, show (stepP z (.is c) v).2 = decide (Mark.is c = v) from rfl, e, if_pos rfl]
        rfl
      | false =>
        refine xb_when (xt_notB (x := false) (xt_bl (x_var 6))) (fun _ => xb_rt x_non ?_) fun h => nomatch h
        rw [show (stepP z (.is c) v).2 = decide (Mark.is c = v) from rfl, e, if_neg Bool.false_ne_true] at hr
        show Sub tNon (tOpt tPl (ledOn z0 ms vs))
        rw [hr]
        exact Sub.rfl'
    | any k =>
      have hk : k < 64 := h2 k (List.mem_of_getElem? hq.1)
      have hz' := hz.setd hk v
      refine xb_if (Ct M B' S_0 H_0 [.ty (tPl z0), .ty (tMs ms), .ty (tMs vs), .own P (.dK (plT (setdA z k v))), .ty (tMk (.any k)), .ty (tMk v), .ty (tBl (decide ((valA z k).getD v = v)))]) (xt_is (y := false) (xt_isIs (x_var 4) x_int (x_str0 b.IS)) rfl) (fun h => nomatch h) (fun _ => ?_) ?_
      · refine xb_setd 3 6 (c := .dK (plT z)) (c' := .dK (plT (setdA z k v))) (p := P) (t := tMk ((valA z k).getD v)) (u := tMk v) rfl (fun X A => ?_) (encMk.isD _) (encMk.isD _) (encMk.dt _) (encMk.dt _) (x_var 5) (xb_nil fun _ _ h => ?_)
        · rw [← setdA_pl, ← gdm]
          exact pe_setdK (kvs := plT z) (k := .inl (k : Int)) (u := tMk v) 3 rfl (x_ixT (n := 1) (x_var 4) x_int rfl) (x_var 5) (by unfold plT; rw [List.length_map]; omega) rfl (Or.inl rfl) (by decide) (by decide) (fun X => ⟨rfl, rfl, rfl, rfl⟩) A
        · rw [encMk.eqv] at h
          exact h
      · cases e : decide ((valA z k).getD v = v) with
        | true =>
          refine xb_when (xt_notB (x := true) (xt_bl (x_var 6))) (fun h => nomatch h) fun _ => xb_nil fun σ H ct => ⟨setdA z k v, ⟨hz', ?_⟩, ct.forget⟩
          rw [hr, show (stepP z (.any k) v).2 = decide ((valA z k).getD v = v) from rfl, e, if_pos rfl]
          rfl
        | false =>
          refine xb_when (xt_notB (x := false) (xt_bl (x_var 6))) (fun _ => xb_rt x_non ?_) fun h => nomatch h
          rw [show (stepP z (.any k) v).2 = decide ((valA z k).getD v = v) from rfl, e, if_neg Bool.false_ne_true] at hr
          show Sub tNon (tOpt tPl (ledOn z0 ms vs))
          rw [hr]
          exact Sub.rfl'
  · rw [hlen] at hr
    rw [ledGo_end (Nat.le_refl _)] at hr
    refine xb_frz 3 rfl (xb_rt (x_var 3) ?_)
    show Sub (tPl z) (tOpt tPl (ledOn z0 ms vs))
    rw [hr]
    exact Sub.rfl'
end Z
end

section
/-! T11: led_lines, likeness, right_likeness. -/
namespace Z
open PySem PySem.Spec L2 PySem.W ZL
variable {g : Gc}
def ledLines : Pl → List Line → List Line → Option Pl
  | z, [], _ => some z
  | z, l :: ls, os => os.findSome? fun o => if o.1 = l.1 then (ledOn z l.2 o.2).bind fun z' => ledLines z' ls os else none
abbrev Lls (n : Nat) := { q : Pl × List Line × List Line // PlOk q.1 ∧ (∀ l ∈ q.2.1, MkOk l.2) ∧ q.2.1.length ≤ n }
abbrev FnLls (g : Gc) (n : Nat) := Fn g "led_lines" (n + 2) (Spp (fun q : Lls n => [tPl q.1.1, tLns q.1.2.1, tLns q.1.2.2]) (fun q => tOpt tPl (ledLines q.1.1 q.1.2.1 q.1.2.2)))
theorem encLns : Enc (List Line) tLns (fun ls => .tuple (ls.map fun l => .tuple [.str l.1.1, .tuple (l.2.map fun m => dKs (kMk m))])) 4 := encLn.tup
theorem lls_body (b : Gb g) (F1 : FnLed g) (n k : Nat) (hk : n + 1 ≤ k) (F2 : ∀ m, n = m + 1 → FnLls g m) (F : Df g "led_lines" (top 50)) : Fn g "led_lines" (k + 1) (Spp (fun q : Lls n => [tPl q.1.1, tLns q.1.2.1, tLns q.1.2.2]) (fun q => tOpt tPl (ledLines q.1.1 q.1.2.1 q.1.2.2))) := by
  refine fn_mk (N := ["places", "lines", "others", "name", "marks", "told", "beside", "longer", "found"]) (ps := ["places", "lines", "others"]) F ⟨rfl, rfl, rfl, by decide +kernel, rfl, by decide +kernel, by decide +kernel⟩ (fun _ => rfl) (by decide) (hb3 fun _ _ _ _ _ _ _ _ _ => rfl) (fun _ _ _ h => h) fun q M S_0 H_0 _ => ?_
  obtain ⟨⟨z, ls, os⟩, h1, h2, h3⟩ := q
  have h1 : PlOk z := h1
  have h2 : ∀ l ∈ ls, MkOk l.2 := h2
  have h3 : ls.length ≤ n := h3
  cases ls with
  | nil => exact xb_when (xt_is (y := true) (xt_eqE encLns (x := []) (y := []) (x_var 1) (x_tup xa_nil)) (by exact decide_eq_true rfl)) (fun _ => xb_rt (x_var 0) Sub.rfl') fun h => nomatch h
  | cons l ls =>
  refine xb_when (xt_is (y := false) (xt_eqE encLns (x := l :: ls) (y := []) (x_var 1) (x_tup xa_nil)) (by exact decide_eq_false (fun z => nomatch z))) (fun h => nomatch h) fun _ => ?_
  refine xb_asg (vs := [3, 4]) (x_ixT (n := 0) (t := tLn l) (x_var 1) x_int rfl) (xg_tup (xgs_cons (xg_name 3) (xgs_cons (xg_name 4) xgs_nil))) ?_
  have eo : ledLines z (l :: ls) os = os.findSome? fun o => if o.1 = l.1 then (ledOn z l.2 o.2).bind fun z' => ledLines z' ls os else none := rfl
  refine xb_for (ts := os.map tLn) (fun i (_ : Unit) => ledLines z (l :: ls) os = (os.drop i).findSome? fun o => if o.1 = l.1 then (ledOn z l.2 o.2).bind fun z' => ledLines z' ls os else none) (fun i _ => [.ty (tPl z), .ty (tLns (l :: ls)), .ty (tLns os), .ty (tNm l.1), .ty (tMs l.2), .unk, .unk, .unk, .unk]) (G1 := fun i _ => match os[i]? with
    | some o => [.ty (tPl z), .ty (tLns (l :: ls)), .ty (tLns os), .ty (tNm l.1), .ty (tMs l.2), .ty (tNm o.1), .ty (tMs o.2), .unk, .unk]
    | none => []) (vs := [5, 6]) (xi_tup (x_var 2)) () (by rw [List.drop_zero]; exact eo) rfl (fun i _ t hit _ => ?_) (fun i _ t B' hit hr _ => ?_) fun _ hr => ?_
  · obtain ⟨o, ho, _, rfl⟩ := map_get hit
    rw [ho]
    exact xg_tup (xgs_cons (xg_name 5) (xgs_cons (xg_name 6) xgs_nil))
  · obtain ⟨o, ho, hmem, rfl⟩ := map_get hit
    rw [ho]
    have hd : os.drop i = o :: os.drop (i + 1) := by
      obtain ⟨i1, i2⟩ := List.getElem?_eq_some_iff.mp ho
      rw [List.drop_eq_getElem_cons i1, i2]
    rw [hd, List.findSome?_cons] at hr
    have keep : ∀ (G : List Slot), Fgt G [.ty (tPl z), .ty (tLns (l :: ls)), .ty (tLns os), .ty (tNm l.1), .ty (tMs l.2), .unk, .unk, .unk, .unk] → (if o.1 = l.1 then (ledOn z l.2 o.2).bind fun z' => ledLines z' ls os else none) = none → ∀ σ H, Ct M B' S_0 H_0 G σ H → ∃ z' : Unit, (ledLines z (l :: ls) os = (os.drop (i + 1)).findSome? fun o => if o.1 = l.1 then (ledOn z l.2 o.2).bind fun z' => ledLines z' ls os else none) ∧ Ct M B' S_0 H_0 [.ty (tPl z), .ty (tLns (l :: ls)), .ty (tLns os), .ty (tNm l.1), .ty (tMs l.2), .unk, .unk, .unk, .unk] σ H := fun G f e σ H ct => ⟨(), by rw [hr, e], ct.forget f⟩
    by_cases hn : o.1 = l.1
    case neg =>
      exact xb_one (xs_if (xt_is (y := false) (xt_eqE encNm (x_var 5) (x_var 3)) (decide_eq_false hn)) (fun h => nomatch h) fun _ => xb_nil (keep _ (by repeat (first | exact Fgt.nil | apply Fgt.keep | apply Fgt.drop)) (if_neg hn)))
    refine xb_one (xs_if (xt_is (y := true) (xt_eqE encNm (x_var 5) (x_var 3)) (decide_eq_true hn)) (fun _ => ?_) fun h => nomatch h)
    rw [if_pos hn] at hr
    refine xb_set 7 (x_callI F1 ⟨(z, l.2, o.2), h1, h2 l (List.mem_cons_self ..)⟩ (xa_3 (x_var 0) (x_var 4) (x_var 6)) trivial (show 1 ≤ k by omega)) ?_
    cases e : ledOn z l.2 o.2 with
    | none =>
      have en : (if o.1 = l.1 then (ledOn z l.2 o.2).bind fun z' => ledLines z' ls os else none) = none := by rw [if_pos hn, e]; rfl
      exact xb_one (xs_if (xt_is (y := false) (xt_notN (v := .non) (x_var 7)) rfl) (fun h => nomatch h) fun _ => xb_nil (keep _ (by repeat (first | exact Fgt.nil | apply Fgt.keep | apply Fgt.drop)) en))
    | some z' =>
      have hz' := ledOn_ok h1 (h2 l (List.mem_cons_self ..)) e
      rw [e] at hr
      obtain ⟨m, hm⟩ : ∃ m, n = m + 1 := ⟨n - 1, by have : ls.length + 1 ≤ n := h3; omega⟩
      refine xb_one (xs_if (xt_notN0 (notN_dK (kvs := plT z')) (x_var 7)) (fun _ => ?_) fun h => nomatch h)
      refine xb_set 8 (x_callI (F2 m hm) ⟨(z', ls, os), hz', fun l' hl' => h2 l' (List.mem_cons_of_mem _ hl'), by have : ls.length + 1 ≤ n := h3; show ls.length ≤ m; omega⟩ (xa_3 (x_var 7) (x_slT_from (k := 1) (ts := (l :: ls).map tLn) (x_var 1) x_int) (x_var 2)) trivial (show m + 2 ≤ k by omega)) ?_
      cases e2 : ledLines z' ls os with
      | none =>
        have en : (if o.1 = l.1 then (ledOn z l.2 o.2).bind fun z' => ledLines z' ls os else none) = none := by rw [if_pos hn, e]; exact e2
        exact xb_one (xs_if (xt_is (y := false) (xt_notN (v := .non) (x_var 8)) rfl) (fun h => nomatch h) fun _ => xb_nil (keep _ (by repeat (first | exact Fgt.nil | apply Fgt.keep | apply Fgt.drop)) en))
      | some z2 =>
        have er : ledLines z (l :: ls) os = some z2 := by
          rw [hr, show ((some z').bind fun z' => ledLines z' ls os) = some z2 from e2]
        refine xb_one (xs_if (xt_notN0 (notN_dK (kvs := plT z2)) (x_var 8)) (fun _ => ?_) fun h => nomatch h)
        refine xb_rt (t := tPl z2) (x_var 8) ?_
        show Sub (tPl z2) (tOpt tPl (ledLines z (l :: ls) os))
        rw [er]
        exact Sub.rfl'
  · rw [List.length_map, List.drop_length] at hr
    refine xb_rt x_non ?_
    show Sub tNon (tOpt tPl (ledLines z (l :: ls) os))
    rw [hr]
    exact Sub.rfl'
theorem ok_led_lines (b : Gb g) (F : Df g "led_lines" (top 50)) (F1 : FnLed g) : ∀ n, FnLls g n
  | 0 => lls_body b F1 0 1 (by omega) (fun m h => nomatch h) F
  | n + 1 => lls_body b F1 (n + 1) (n + 2) (by omega) (fun m h => by
    have : m = n := by omega
    rw [this]
    exact ok_led_lines b F F1 n) F

/-! numbers -/
theorem srt_range {ns : List Int} {n : Nat} (h : ∀ k : Int, k ∈ ns ↔ 0 ≤ k ∧ k < (n : Int)) {ms : List Int} (hs : Srt ns ms) : ms = (List.range n).map fun k => ((k : Nat) : Int) := by
  obtain ⟨h1, h2⟩ := hs
  have hm : ∀ k, k ∈ ms ↔ 0 ≤ k ∧ k < (n : Int) := fun k => by rw [h2, h]
  clear h h2
  induction n generalizing ms with
  | zero =>
    cases ms with
    | nil => rfl
    | cons x xs => have := (hm x).mp (List.mem_cons_self ..); omega
  | succ n ih =>
    have hl : ((n : Nat) : Int) ∈ ms := (hm _).mpr ⟨by omega, by omega⟩
    obtain ⟨as, bs, rfl⟩ := List.append_of_mem hl
    have hb : bs = [] := by
      cases bs with
      | nil => rfl
      | cons x xs =>
        have a1 := (hm x).mp (by simp)
        have a2 : ((n : Nat) : Int) < x := by
          have := (List.pairwise_append.mp h1).2.1
          exact (List.pairwise_cons.mp this).1 x (List.mem_cons_self ..)
        omega
    subst hb
    have e := ih (ms := as) (List.pairwise_append.mp h1).1 fun k => ⟨fun hk => by
      have a1 := (hm k).mp (by simp [hk])
      have a2 := (List.pairwise_append.mp h1).2.2 k hk _ (List.mem_cons_self ..)
      omega, fun hk => by
      have := (hm k).mpr ⟨hk.1, by omega⟩
      rcases List.mem_append.mp this with z | z
      · exact z
      · have : k = ((n : Nat) : Int) := by simpa using z
        omega⟩
    rw [e, List.range_succ, List.map_append]
    rfl
/-- lines whose numbers are 0 .. n - 1 -/
structure NumsN (ls : List Line) (n : Nat) : Prop where
  few : (marksOf ls).length ≤ 60
  mem : ∀ k : Int, k ∈ numsOf ls ↔ 0 ≤ k ∧ k < (n : Int)
def tRng (n : Nat) : Ty := tLs ((List.range n).map tNt)
theorem NumsN.ty {ls : List Line} {n : Nat} (h : NumsN ls n) : Sub (tEx (Srt (numsOf ls)) tNums) (tRng n) := fun S v ⟨ms, h1, h2⟩ => by
  have e := srt_range h.mem h1
  subst e
  unfold tRng
  have : tNums ((List.range n).map fun k => ((k : Nat) : Int)) = tLs ((List.range n).map tNt) := by
    unfold tNums
    rw [List.map_map]
    rfl
  rw [← this]
  exact h2
abbrev FnNums (g : Gc) := Fn g "numbers_in" 2 (Spp (fun ls : Lns => [tLns ls.1]) (fun ls => tEx (Srt (numsOf ls.1)) tNums))
def mk0 : Mark := .any 0
def likeF (one other : Sheet) (n : Nat) : Option (List Mark) := (ledOn [] one.1 other.1).bind fun z => (ledLines z one.2 other.2).map fun z' => (List.range n).map fun k => (valA z' k).getD mk0
structure LikeOk (one other : Sheet) (n : Nat) : Prop where
  hd : MkOk one.1
  ln : ∀ l ∈ one.2, MkOk l.2
  few : one.2.length ≤ 5
  nums : NumsN one.2 n
  n64 : n ≤ 64
  cov : ∀ z z', ledOn [] one.1 other.1 = some z → ledLines z one.2 other.2 = some z' → ∀ k, k < n → (valA z' k).isSome = true
abbrev Lk := { q : Sheet × Sheet × Nat // LikeOk q.1 q.2.1 q.2.2 }
abbrev FnLike (g : Gc) := Fn g "likeness" 8 (Spp (fun q : Lk => [tSh q.1.1, tSh q.1.2.1]) (fun q => tOpt tMs (likeF q.1.1 q.1.2.1 q.1.2.2)))
theorem ok_likeness (b : Gb g) (F : Df g "likeness" (top 51)) (F1 : FnLed g) (F2 : FnLls g 5) (F3 : FnNums g) : FnLike g := by
  refine fn_mk (N := ["one", "other", "begun", "places", "number"]) (ps := ["one", "other"]) F ⟨rfl, rfl, rfl, by decide +kernel, rfl, by decide +kernel, by decide +kernel⟩ (fun _ => rfl) (by decide) (hb2 fun _ _ _ _ _ _ _ _ => rfl) (fun _ _ _ h => h) fun q M S_0 H_0 _ => ?_
  obtain ⟨⟨⟨h1, l1⟩, ⟨h2, l2⟩, n⟩, h⟩ := q
  have h : LikeOk (h1, l1) (h2, l2) n := h
  have hn := h.n64
  have p0 : PlOk [] := ⟨List.nodup_nil, fun k hk => by cases hk⟩
  refine xb_set 2 (x_callI F1 ⟨([], h1, h2), p0, h.hd⟩ (xa_3 (x_sub (xf_x xf_dK) fun S v ⟨_, _, z⟩ => z) (x_ixT (n := 0) (t := tMs h1) (x_var 0) x_int rfl) (x_ixT (n := 0) (t := tMs h2) (x_var 1) x_int rfl)) trivial) ?_
  cases e1 : ledOn [] h1 h2 with
  | none =>
    refine xb_when (xt_is (y := true) (xt_isN (v := .non) (x_var 2)) rfl) (fun _ => xb_rt x_non ?_) fun h => nomatch h
    show Sub tNon (tOpt tMs (likeF (h1, l1) (h2, l2) n))
    unfold likeF
    rw [show ledOn [] (h1, l1).1 (h2, l2).1 = none from e1]
    exact Sub.rfl'
  | some z =>
  have hz := ledOn_ok p0 h.hd e1
  refine xb_when (xt_isN0 (notN_dK (kvs := plT z)) (x_var 2)) (fun h => nomatch h) fun _ => ?_
  refine xb_set 3 (x_callI F2 ⟨(z, l1, l2), hz, h.ln, h.few⟩ (xa_3 (x_var 2) (x_ixT (n := 1) (t := tLns l1) (x_var 0) x_int rfl) (x_ixT (n := 1) (t := tLns l2) (x_var 1) x_int rfl)) trivial) ?_
  cases e2 : ledLines z l1 l2 with
  | none =>
    refine xb_when (xt_is (y := true) (xt_isN (v := .non) (x_var 3)) rfl) (fun _ => xb_rt x_non ?_) fun h => nomatch h
    show Sub tNon (tOpt tMs (likeF (h1, l1) (h2, l2) n))
    unfold likeF
    rw [show ledOn [] (h1, l1).1 (h2, l2).1 = some z from e1]
    show Sub tNon (tOpt tMs ((ledLines z l1 l2).map _))
    rw [e2]
    exact Sub.rfl'
  | some z' =>
  refine xb_when (xt_isN0 (notN_dK (kvs := plT z')) (x_var 3)) (fun h => nomatch h) fun _ => ?_
  have cov := h.cov z z' e1 e2
  refine xb_rt (t := tMs ((List.range n).map fun k => (valA z' k).getD mk0)) (x_tupL (x_ty (x_lcA (xs := List.range n) (own := [("number", 4)]) (vs := [4]) (T := tNt) (U := fun k => tMk ((valA z' k).getD mk0)) (G1 := fun k => [.ty (tSh (h1, l1)), .ty (tSh (h2, l2)), .ty (tPl z), .ty (tPl z'), .ty (tNt k)]) (xi_list (x_sub (x_callI F3 ⟨l1, h.nums.few⟩ (xa_1 (x_ixT (n := 1) (t := tLns l1) (x_var 0) x_int rfl)) trivial) h.nums.ty)) rfl (blkOk_by (by decide +kernel)) (by rw [List.length_range]; omega) (fun k _ => xg_name 4) fun k hk => ?_) ?_) b.tuple) ?_
  · have hs := cov k (List.mem_range.mp hk)
    refine x_getK (kvs := plT z') (k := .inl (k : Int)) (x_var 3) (x_var 4) ?_
    rw [valA_pl]
    cases q : valA z' k with
    | none => rw [q] at hs; cases hs
    | some v => rfl
  · rw [List.map_map]
    rfl
  · show Sub (tMs ((List.range n).map fun k => (valA z' k).getD mk0)) (tOpt tMs (likeF (h1, l1) (h2, l2) n))
    unfold likeF
    rw [show ledOn [] (h1, l1).1 (h2, l2).1 = some z from e1]
    show Sub _ (tOpt tMs ((ledLines z l1 l2).map _))
    rw [e2]
    exact Sub.rfl'
end Z
end

section
/-! T12: right_likeness; the field; fresh numbers. -/
namespace Z
open PySem PySem.Spec L2 PySem.W ZL
variable {g : Gc}
def rightL (one other : Sheet) (n : Nat) (th : List Mark) : Bool := decide (th.length = n) && (decide (putBy th one.1 = other.1) && one.2.all fun l => decide ((l.1, putBy th l.2) ∈ other.2))
structure RightOk (one : Sheet) (n : Nat) : Prop where
  nums : NumsN one.2 n
  hd : Under n one.1
  ln : ∀ l ∈ one.2, Under n l.2
  h1 : one.1.length ≤ 1000
  l1 : one.2.length ≤ 1000
  m1 : ∀ l ∈ one.2, l.2.length ≤ 1000
abbrev Rl := { q : Sheet × Sheet × Nat × List Mark // RightOk q.1 q.2.2.1 ∧ q.2.2.2.length ≤ 1000 }
abbrev FnPut (g : Gc) := Fn g "put_by" 1 (Spp (fun q : Pb => [tMs q.1.1, tMs q.1.2]) (fun q => tMs (putBy q.1.1 q.1.2)))
abbrev FnMark (g : Gc) := Fn g "is_mark" 3 (Spp (fun m : Mark => [tMk m]) (fun m => tBl true))
theorem ok_right (b : Gb g) (F : Df g "right_likeness" (top 48)) (F1 : FnNums g) (F2 : FnMark g) (F3 : FnPut g) : Fn g "right_likeness" 4 (Spp (fun q : Rl => [tSh q.1.1, tSh q.1.2.1, tMs q.1.2.2.2]) (fun q => tBl (rightL q.1.1 q.1.2.1 q.1.2.2.1 q.1.2.2.2))) := by
  refine fn_mk (N := ["one", "other", "thing", "head", "lines", "mark", "name", "marks"]) (ps := ["one", "other", "thing"]) F ⟨rfl, rfl, rfl, by decide +kernel, rfl, by decide +kernel, by decide +kernel⟩ (fun _ => rfl) (by decide) (hb3 fun _ _ _ _ _ _ _ _ _ => rfl) (fun _ _ _ h => h) fun q M S_0 H_0 _ => ?_
  obtain ⟨⟨⟨hd, ls⟩, ⟨oh, ol⟩, n, th⟩, h, ht⟩ := q
  have h : RightOk (hd, ls) n := h
  have ht : th.length ≤ 1000 := ht
  refine xb_asg (vs := [3, 4]) (x_var 0) (xg_tup (xgs_cons (xg_name 3) (xgs_cons (xg_name 4) xgs_nil))) ?_
  by_cases e1 : th.length = n
  case neg =>
    refine xb_when (xw_t (xw_orB (x := false) (y := true) (xt_notB (x := true) (xt_bl (x_isi (x_var 2) tag_tu (by decide +kernel) b.isinstance b.tuple boot_tuple'))) fun _ => xw_or1 (xt_is (xt_neE encIn (x := (th.length : Int)) (y := (n : Int)) (x_ty (x_lenT (x_var 2) b.len) (by rw [List.length_map])) (x_ty (x_lenL (x_sub (x_callI F1 ⟨ls, h.nums.few⟩ (xa_1 (x_var 4)) trivial) h.nums.ty) b.len) (by rw [List.length_map, List.length_range]))) (by rw [decide_eq_false fun z => e1 (Int.ofNat_inj.mp z)]; rfl)))) (fun _ => xb_rt x_bl ?_) fun h => nomatch h
    show Sub (tBl false) (tBl (rightL (hd, ls) (oh, ol) n th))
    rw [show rightL (hd, ls) (oh, ol) n th = false by unfold rightL; rw [decide_eq_false e1]; rfl]
    exact Sub.rfl'
  refine xb_when (xw_t (xw_orB (x := false) (y := false) (xt_notB (x := true) (xt_bl (x_isi (x_var 2) tag_tu (by decide +kernel) b.isinstance b.tuple boot_tuple'))) fun _ => xw_or1 (xt_is (xt_neE encIn (x := (th.length : Int)) (y := (n : Int)) (x_ty (x_lenT (x_var 2) b.len) (by rw [List.length_map])) (x_ty (x_lenL (x_sub (x_callI F1 ⟨ls, h.nums.few⟩ (xa_1 (x_var 4)) trivial) h.nums.ty) b.len) (by rw [List.length_map, List.length_range]))) (by rw [decide_eq_true (by rw [e1])]; rfl)))) (fun h => nomatch h) fun _ => ?_
  have hput : ∀ ms : List Mark, Under n ms → Under th.length ms := fun ms hu => by rw [e1]; exact hu
  refine xb_when (xw_t (xw_orB (x := false) (y := !decide (putBy th hd = oh)) (xt_notB (x := true) (xt_bl (x_allT (xs := th) (x_lcA (own := [("mark", 5)]) (vs := [5]) (T := tMk) (U := fun _ => tBl true) (xi_tup (x_var 2)) rfl (blkOk_by (by decide +kernel)) (by omega) (fun m _ => xg_name 5) fun m _ => x_callI F2 m (xa_1 (x_var 5)) trivial) b.all))) fun _ => xw_or1 (xt_neE encMs (x_callI F3 ⟨(th, hd), hput hd h.hd, h.h1⟩ (xa_2 (x_var 2) (x_var 3)) trivial) (x_ixT (n := 0) (t := tMs oh) (x_var 1) x_int rfl)))) (fun hc => ?_) fun hc => ?_
  · refine xb_rt x_bl ?_
    have e2 : decide (putBy th hd = oh) = false := by
      have : true = (false || !decide (putBy th hd = oh)) := hc
      simpa using this.symm
    show Sub (tBl false) (tBl (rightL (hd, ls) (oh, ol) n th))
    rw [show rightL (hd, ls) (oh, ol) n th = false by unfold rightL; rw [show decide (putBy th (hd, ls).1 = (oh, ol).1) = false from e2]; simp]
    exact Sub.rfl'
  · have e2 : decide (putBy th hd = oh) = true := by
      have : false = (false || !decide (putBy th hd = oh)) := hc
      simpa using this.symm
    have l1 : ls.length ≤ 1000 := h.l1
    refine xb_rt (x_all (bs := ls.map fun l => decide ((l.1, putBy th l.2) ∈ ol)) (x_ty (x_lcA (xs := ls) (own := [("name", 6), ("marks", 7)]) (vs := [6, 7]) (T := tLn) (U := fun l => tBl (decide ((l.1, putBy th l.2) ∈ ol))) (G1 := fun l => [.ty (tSh (hd, ls)), .ty (tSh (oh, ol)), .ty (tMs th), .ty (tMs hd), .ty (tLns ls), .unk, .ty (tNm l.1), .ty (tMs l.2)]) (xi_tup (x_var 4)) rfl (blkOk_by (by decide +kernel)) (by omega) (fun l _ => xg_tup (xgs_cons (xg_name 6) (xgs_cons (xg_name 7) xgs_nil))) fun l hl => ?_) (by rw [List.map_map]; rfl)) b.all) ?_
    · refine x_isB (x_inT encLn (x := (l.1, putBy th l.2)) (xs := ol) ?_ ?_ (by decide) ?_) (decide_eq_decide.mpr Iff.rfl)
      · exact x_tup (xa_2 (x_var 6) (x_callI F3 ⟨(th, l.2), hput l.2 (h.ln l hl), h.m1 l hl⟩ (xa_2 (x_var 2) (x_var 7)) trivial))
      · exact x_ixT (n := 1) (t := tLns ol) (x_var 1) x_int rfl
      · rfl
    · show Sub _ (tBl (rightL (hd, ls) (oh, ol) n th))
      rw [show rightL (hd, ls) (oh, ol) n th = (ls.map fun l => decide ((l.1, putBy th l.2) ∈ ol)).all id by unfold rightL; rw [decide_eq_true e1, show decide (putBy th (hd, ls).1 = (oh, ol).1) = true from e2, List.all_map]; rfl]
      exact Sub.rfl'
/-! the field -/
structure FdC (g : Gc) (C : Addr) : Prop where
  cls : Cls g.K C
  noB : NoAttr g.K C "books"
  noN : NoAttr g.K C "named"
def tFd (C : Addr) (bs : List Book) (nm : List Vl) : Ty := ⟨fun S u => ∃ a dx fs v w, u = .ref a ∧ S a = some (.ins C dx fs) ∧ fs.lookup ("books" : Str) = some v ∧ (tBks bs).is S v ∧ fs.lookup ("named" : Str) = some w ∧ (tVls nm).is S w,
  fun e ⟨a, dx, fs, v, w, h1, h2, h3, h4, h5, h6⟩ => ⟨a, dx, fs, v, w, h1, e _ _ h2, h3, Ty.mono _ e h4, h5, Ty.mono _ e h6⟩⟩
section
variable {l : Lc} {M : Md} {G : List Slot} {pos : Pos} {a : Expr} {C : Addr} {bs : List Book} {nm : List Vl}
theorem x_books (c : FdC g C) (h : XE g l M G a (tFd C bs nm)) (hb : ∀ env, attributeBase a "books" env (eval a env) = eval a env := by intro _; rfl) : XE g l M G (.Attribute a "books" pos) (tBks bs) := fun X A =>
  conv (pe_fld (h X A) (hb _)) fun σ H Q ⟨S, pr, q⟩ => tE.step pr fun u S1 H1 q1 p1 ⟨x, dx, fs, v, w, h1, h2, h3, h4, h5, h6⟩ => ⟨x, C, dx, fs, v, h1, p1.1 _ _ h2, by rw [A.K]; exact c.cls, by rw [A.K]; exact c.noB, h3, q v S1 H1 q1 h4⟩
theorem x_named (c : FdC g C) (h : XE g l M G a (tFd C bs nm)) (hb : ∀ env, attributeBase a "named" env (eval a env) = eval a env := by intro _; rfl) : XE g l M G (.Attribute a "named" pos) (tVls nm) := fun X A =>
  conv (pe_fld (h X A) (hb _)) fun σ H Q ⟨S, pr, q⟩ => tE.step pr fun u S1 H1 q1 p1 ⟨x, dx, fs, v, w, h1, h2, h3, h4, h5, h6⟩ => ⟨x, C, dx, fs, w, h1, p1.1 _ _ h2, by rw [A.K]; exact c.cls, by rw [A.K]; exact c.noN, h5, q w S1 H1 q1 h6⟩
end
end Z
end

section
/-! T13: fresh numbers, values of a sheet, the frozen book. -/
namespace Z
open PySem PySem.Spec L2 PySem.W ZL
variable {g : Gc}
instance (priority := 5000) decVl (v : Vl) (u : List Vl) : Decidable (v ∈ u) := @List.instDecidableMemOfLawfulBEq Vl instBEqOfDecidableEq _ v u
def valOf : Mark → Vl
  | .is v => v
  | .any _ => v0
def numV (k : Nat) : Vl := if h : k ≤ 1000000000 then ⟨.inl (k : Int), by unfold valOk; simp only [Bool.and_eq_true, decide_eq_true_eq]; omega⟩ else v0
theorem numV_ty {k : Nat} (h : k ≤ 1000000000) : tVl (numV k) = tIn (k : Int) := by
  unfold numV
  rw [dif_pos h]
  rfl
def usedOf (nm : List Vl) (s : Sheet) : List Vl := nm ++ ((marksOf s.2 ++ s.1).filter fun m => !isAny m).map valOf
def freshOf (used : List Vl) (n : Nat) : List Vl := (((List.range (n + used.length)).map numV).filter fun v : Vl => !decide (v ∈ used)).take n
structure FreshOk (nm : List Vl) (s : Sheet) (n : Nat) : Prop where
  nums : NumsN s.2 n
  nf : nm.length ≤ 1000
  hf : s.1.length ≤ 60
  n64 : n ≤ 64
abbrev Fr1 := { q : List Book × List Vl × Sheet × Nat // FreshOk q.2.1 q.2.2.1 q.2.2.2 }
abbrev FnMarksIn (g : Gc) := Fn g "marks_in" 1 (Spp (fun ls : Lns => [tLns ls.1]) (fun ls => tLs ((marksOf ls.1).map tMk)))
abbrev FnFresh (g : Gc) (C : Addr) := Fn g "fresh_numbers" 3 (Spp (fun q : Fr1 => [tFd C q.1.1 q.1.2.1, tSh q.1.2.2.1]) (fun q => tLs ((freshOf (usedOf q.1.2.1 q.1.2.2.1) q.1.2.2.2).map tVl)))
theorem x_cat2 {l : Lc} {M : Md} {G : List Slot} {a b : Expr} {pos : Pos} {α : Type} {T : α → Ty} {xs ys : List α} (ha : XE g l M G a (tLs (xs.map T))) (hb : XE g l M G b (tLs (ys.map T))) (hl : xs.length + ys.length ≤ 100000) : XE g l M G (.BinOp a .Add b pos) (tLs ((xs ++ ys).map T)) := by
  rw [List.map_append]
  exact x_catL ha hb (by rw [List.length_map, List.length_map]; exact hl)
theorem used_len {nm : List Vl} {s : Sheet} {n : Nat} (h : FreshOk nm s n) : (usedOf nm s).length ≤ 1120 := by
  have h1 := h.nf
  have h2 := h.hf
  have h3 := h.nums.few
  have h4 := List.length_filter_le (fun m => !isAny m) (marksOf s.2 ++ s.1)
  unfold usedOf
  rw [List.length_append, List.length_map]
  rw [List.length_append] at h4
  omega
theorem ok_fresh {C : Addr} (c : FdC g C) (b : Gb g) (F : Df g "fresh_numbers" (top 53)) (F1 : FnMarksIn g) (F2 : FnNums g) : FnFresh g C := by
  refine fn_mk (N := ["field", "sheet", "used", "many", "mark", "number"]) (ps := ["field", "sheet"]) F ⟨rfl, rfl, rfl, by decide +kernel, rfl, by decide +kernel, by decide +kernel⟩ (fun _ => rfl) (by decide) (hb2 fun _ _ _ _ _ _ _ _ => rfl) (fun _ _ _ h => h) fun q M S_0 H_0 _ => ?_
  obtain ⟨⟨bs, nm, ⟨hd, ls⟩, n⟩, h⟩ := q
  have h : FreshOk nm (hd, ls) n := h
  have h1 : nm.length ≤ 1000 := h.nf
  have h2 : hd.length ≤ 60 := h.hf
  have h3 : (marksOf ls).length ≤ 60 := h.nums.few
  have h4 := h.n64
  have hu := used_len h
  have hsum : (marksOf ls ++ hd).length ≤ 120 := by rw [List.length_append]; omega
  refine xb_set 2 (t := tLs ((usedOf nm (hd, ls)).map tVl)) (x_cat2 (x_lstT (x_named c (x_var 0)) b.list) (x_ty (x_lcD (xs := marksOf ls ++ hd) (own := [("mark", 4)]) (vs := [4]) (T := tMk) (U := fun m => tVl (valOf m)) (f := fun m => !isAny m) (G1 := fun m => [.ty (tFd C bs nm), .ty (tSh (hd, ls)), .unk, .unk, .ty (tMk m), .unk]) (xi_list (x_cat2 (x_callI F1 ⟨ls, h3⟩ (xa_1 (x_ixT (n := 1) (t := tLns ls) (x_var 1) x_int rfl)) trivial) (x_lstT (x_ixT (n := 0) (t := tMs hd) (x_var 1) x_int rfl) b.list) (by omega))) rfl (blkOk_by (by decide +kernel)) (by omega) (fun m _ => xg_name 4) (fun m _ => xts_one (xt_isIs (x_var 4) x_int (x_str0 b.IS))) fun m _ hm => ?_) ?_) ?_) ?_
  · cases m with
    | any k => cases hm
    | is v => exact x_ixT (n := 1) (x_var 4) x_int rfl
  · rw [List.map_map]; rfl
  · have h5 := List.length_filter_le (fun m => !isAny m) (marksOf ls ++ hd)
    rw [List.length_map]
    show nm.length + ((marksOf ls ++ hd).filter fun m => !isAny m).length ≤ _
    omega
  refine xb_set 3 (t := tNt n) (x_ty (x_lenL (x_sub (x_callI F2 ⟨ls, h3⟩ (xa_1 (x_ixT (n := 1) (t := tLns ls) (x_var 1) x_int rfl)) trivial) h.nums.ty) b.len) (by rw [List.length_map, List.length_range]; rfl)) ?_
  have er : rngT 0 ((n : Int) + ((usedOf nm (hd, ls)).length : Int)).toNat = ((List.range (n + (usedOf nm (hd, ls)).length)).map numV).map tVl := by
    unfold rngT
    rw [show ((n : Int) + ((usedOf nm (hd, ls)).length : Int)).toNat = n + (usedOf nm (hd, ls)).length by omega, List.map_map]
    apply List.map_congr_left
    intro k hk
    have hk := List.mem_range.mp hk
    show tIn (0 + ((k : Nat) : Int)) = tVl (numV k)
    rw [numV_ty (by omega), Int.zero_add]
  refine xb_rt' (x_ty (x_slL_to (k := n) (x_lcD (xs := (List.range (n + (usedOf nm (hd, ls)).length)).map numV) (own := [("number", 5)]) (vs := [5]) (T := tVl) (U := tVl) (f := fun v : Vl => !decide (v ∈ usedOf nm (hd, ls))) (G1 := fun v => [.ty (tFd C bs nm), .ty (tSh (hd, ls)), .ty (tLs ((usedOf nm (hd, ls)).map tVl)), .ty (tNt n), .unk, .ty (tVl v)]) (by rw [← er]; exact xi_rng (x_add (x_var 3) (x_ty (x_lenL (x_var 2) b.len) (by rw [List.length_map]))) (by omega) (by omega) b.range) rfl (blkOk_by (by decide +kernel)) (by rw [List.length_map, List.length_range]; omega) (fun v _ => xg_name 5) (fun v _ => xts_one (xt_niL encVl (x_var 5) (x_var 2))) fun v _ _ => x_var 5) (x_var 3)) ?_)
  rw [← List.map_take]
  rfl
/-! values -/
abbrev Vd := List (Mark × Vl)
def vdT (z : Vd) : List (List Key × Ty) := z.map fun q => (kMk q.1, tVl q.2)
theorem valA_vd (z : Vd) (m : Mark) : valA (vdT z) (kMk m) = (valA z m).map tVl := by
  induction z with
  | nil => rfl
  | cons q z ih =>
    obtain ⟨j, v⟩ := q
    show valA ((kMk j, tVl v) :: vdT z) _ = _
    rw [valA_cons, valA_cons]
    by_cases e : j = m
    · rw [if_pos e, if_pos (by rw [e])]; rfl
    · rw [if_neg e, if_neg fun h => e (kMk_inj h), ih]
theorem putA_vd (z : Vd) (m : Mark) (v : Vl) : putA (vdT z) (kMk m) (tVl v) = vdT (putA z m v) := by
  unfold putA
  have e : ((vdT z).any fun q => decide (q.1 = kMk m)) = z.any fun q => decide (q.1 = m) := by
    unfold vdT
    rw [List.any_map]
    congr 1
    funext q
    exact decide_eq_decide.mpr ⟨fun h => kMk_inj h, fun h => by rw [← h]⟩
  rw [e]
  split
  · unfold vdT
    rw [List.map_map, List.map_map]
    apply List.map_congr_left
    intro q _
    show (if kMk q.1 = kMk m then (kMk q.1, tVl v) else (kMk q.1, tVl q.2)) = _
    by_cases h : q.1 = m
    · rw [if_pos (by rw [h])]; simp [h]
    · rw [if_neg fun z => h (kMk_inj z)]; simp [h]
  · unfold vdT
    rw [List.map_append]
    rfl
def pairs (fr : List Vl) : List (Nat × Vl) := (List.range fr.length).zip fr
def vd0 (fr : List Vl) : Vd := buildA (fun q : Nat × Vl => Mark.any q.1) (fun q => q.2) (pairs fr)
def vdStep (z : Vd) (m : Mark) : Vd := match m with
  | .is v => putA z (.is v) v
  | .any _ => z
def vdOf (nm : List Vl) (s : Sheet) (n : Nat) : Vd := (marksOf s.2 ++ s.1).foldl vdStep (vd0 (freshOf (usedOf nm s) n))
theorem vd0_T (fr : List (Nat × Vl)) : buildA (fun q : Nat × Vl => kMk (.any q.1)) (fun q => tVl q.2) fr = vdT (buildA (fun q : Nat × Vl => Mark.any q.1) (fun q => q.2) fr) := by
  induction fr using snocInd with
  | h0 => rfl
  | hs xs x ih => rw [buildA_snoc, buildA_snoc, ih, putA_vd]
theorem vd_len (z : Vd) (ms : List Mark) : (ms.foldl vdStep z).length ≤ z.length + ms.length := by
  induction ms generalizing z with
  | nil => exact Nat.le_refl _
  | cons m ms ih =>
    rw [List.foldl_cons]
    have h1 := ih (vdStep z m)
    have h2 : (vdStep z m).length ≤ z.length + 1 := by
      cases m with
      | any k => exact Nat.le_succ _
      | is v => exact putA_len ..
    rw [List.length_cons]
    omega
theorem fresh_len (u : List Vl) (n : Nat) : (freshOf u n).length ≤ n := by
  unfold freshOf
  rw [List.length_take]
  exact Nat.min_le_left _ _
theorem pairs_len (fr : List Vl) : (pairs fr).length = fr.length := by
  unfold pairs
  rw [List.length_zip, List.length_range, Nat.min_self]
abbrev FnValues (g : Gc) (C : Addr) := Fn g "values_for" 4 (Spp (fun q : Fr1 => [tFd C q.1.1 q.1.2.1, tSh q.1.2.2.1]) (fun q => tDT (vdT (vdOf q.1.2.1 q.1.2.2.1 q.1.2.2.2))))
theorem ok_values_for {C : Addr} (c : FdC g C) (b : Gb g) (F : Df g "values_for" (top 54)) (F1 : FnMarksIn g) (F2 : FnFresh g C) : FnValues g C := by
  refine fn_mk (N := ["field", "sheet", "found", "k", "number", "mark"]) (ps := ["field", "sheet"]) F ⟨rfl, rfl, rfl, by decide +kernel, rfl, by decide +kernel, by decide +kernel⟩ (fun _ => rfl) (by decide) (hb2 fun _ _ _ _ _ _ _ _ => rfl) (fun _ _ _ h => h) fun q M S_0 H_0 _ => ?_
  obtain ⟨⟨bs, nm, ⟨hd, ls⟩, n⟩, h⟩ := q
  have h : FreshOk nm (hd, ls) n := h
  have h2 : hd.length ≤ 60 := h.hf
  have h3 : (marksOf ls).length ≤ 60 := h.nums.few
  have h4 := h.n64
  have hsum : (marksOf ls ++ hd).length ≤ 120 := by rw [List.length_append]; omega
  have hfl := fresh_len (usedOf nm (hd, ls)) n
  have hpl := pairs_len (freshOf (usedOf nm (hd, ls)) n)
  have ee : enuT ((freshOf (usedOf nm (hd, ls)) n).map tVl) = (pairs (freshOf (usedOf nm (hd, ls)) n)).map fun q => tTu [tNt q.1, tVl q.2] := by
    unfold enuT pairs
    rw [List.length_map, List.zip_map_right, List.map_map]
    rfl
  refine xb_ownC 2 (xsc_T 2 (own := [("k", 3), ("number", 4)]) (vs := [3, 4]) (T := fun q : Nat × Vl => tTu [tNt q.1, tVl q.2]) (U := fun q : Nat × Vl => tVl q.2) (key := fun q : Nat × Vl => kMk (.any q.1)) (xs := pairs (freshOf (usedOf nm (hd, ls)) n)) (G1 := fun q => [.ty (tFd C bs nm), .ty (tSh (hd, ls)), .unk, .ty (tNt q.1), .ty (tVl q.2), .unk]) rfl (by rw [← ee]; exact xi_enu (x_callI F2 ⟨(bs, nm, (hd, ls), n), h⟩ (xa_2 (x_var 0) (x_var 1)) trivial) b.enumerate) (blkOk_by (by decide +kernel)) (by omega)
    (fun D q _ => xg_tup (xgs_cons (xg_name 3) (xgs_cons (xg_name 4) xgs_nil))) (fun D q _ => x_tup (ts := [tSt "any", tNt q.1]) (xa_2 (x_str0 b.ANY) (x_var 3))) (fun D q _ => x_var 4)) fun P => ?_
  rw [vd0_T]
  refine xb_for (ts := (marksOf ls ++ hd).map tMk) (fun i (_ : Unit) => True) (fun i _ => [.ty (tFd C bs nm), .ty (tSh (hd, ls)), .own P (.dT (vdT (((marksOf ls ++ hd).take i).foldl vdStep (vd0 (freshOf (usedOf nm (hd, ls)) n))))), .unk, .unk, .unk]) (G1 := fun i _ => match (marksOf ls ++ hd)[i]? with
    | some m => [.ty (tFd C bs nm), .ty (tSh (hd, ls)), .own P (.dT (vdT (((marksOf ls ++ hd).take i).foldl vdStep (vd0 (freshOf (usedOf nm (hd, ls)) n))))), .unk, .unk, .ty (tMk m)]
    | none => []) (vs := [5]) (xi_list (x_cat2 (x_callI F1 ⟨ls, h3⟩ (xa_1 (x_ixT (n := 1) (t := tLns ls) (x_var 1) x_int rfl)) trivial) (x_lstT (x_ixT (n := 0) (t := tMs hd) (x_var 1) x_int rfl) b.list) (by rw [List.length_append] at hsum; omega))) () trivial rfl (fun i _ t hit _ => ?_) (fun i _ t B' hit _ _ => ?_) fun _ _ => ?_
  · obtain ⟨m, hm, _, rfl⟩ := map_get hit
    rw [hm]
    exact xg_name 5
  · obtain ⟨m, hm, hmem, rfl⟩ := map_get hit
    rw [hm, take_succ_get hm, List.foldl_append]
    have hb := vd_len (vd0 (freshOf (usedOf nm (hd, ls)) n)) ((marksOf ls ++ hd).take i)
    have hb2 : (vd0 (freshOf (usedOf nm (hd, ls)) n)).length ≤ (pairs (freshOf (usedOf nm (hd, ls)) n)).length := buildA_len _
    rw [List.length_take] at hb
    cases m with
    | any k => exact xb_one (xs_if (xt_is (y := false) (xt_isIs (x_var 5) x_int (x_str0 b.IS)) rfl) (fun h => nomatch h) fun _ => xb_nil fun σ H ct => ⟨(), trivial, ct.forget⟩)
    | is v =>
      refine xb_one (xs_if (xt_is (y := true) (xt_isIs (x_var 5) x_int (x_str0 b.IS)) rfl) (fun _ => ?_) fun h => nomatch h)
      refine xb_put (k := kMk (.is v)) (py := ⟨0, 0, 0, 0⟩) 2 rfl (x_var 5) (x_ixT (n := 1) (t := tVl v) (x_var 5) x_int rfl) (by unfold vdT; rw [List.length_map]; omega) (xb_nil fun σ H ct => ⟨(), trivial, ?_⟩)
      rw [putA_vd] at ct
      exact ct.forget
  · rw [List.length_map, List.take_length]
    exact xb_frz 2 rfl (xb_rt' (x_var 2))
end Z
end

section
/-! T14: frozen, frozen_row. -/
namespace Z
open PySem PySem.Spec L2 PySem.W ZL
variable {g : Gc}
def imgOf (z : Vd) (ms : List Mark) : Row := ms.map fun m => (valA z m).getD v0
def toldOf (z : Vd) (ls : List Line) (n : Nm) : List Row := (ls.filter fun l => decide (l.1 = n)).map fun l => imgOf z l.2
/-- what a frozen book may be -/
def Frz (b0 : Book) (z : Vd) (ls : List Line) (r : Book) : Prop := r.map (fun t => (t.1, t.2.1)) = b0.map (fun t => (t.1, t.2.1)) ∧ ∀ t ∈ r, Same (toldOf z ls t.1) t.2.2
structure IceOk (bs : List Book) (nm : List Vl) (s : Sheet) (n : Nat) (b0 : Book) : Prop where
  fr : FreshOk nm s n
  bk : bs[0]? = some b0
  bl : b0.length ≤ 1000
  ln : s.2.length ≤ 1000
  lw : ∀ l ∈ s.2, l.2.length ≤ 1000
  cov : ∀ l ∈ s.2, ∀ m ∈ l.2, (valA (vdOf nm s n) m).isSome = true
  covh : ∀ m ∈ s.1, (valA (vdOf nm s n) m).isSome = true
abbrev Ice := { q : List Book × List Vl × Sheet × Nat × Book // IceOk q.1 q.2.1 q.2.2.1 q.2.2.2.1 q.2.2.2.2 }
abbrev FnFrozen (g : Gc) (C : Addr) := Fn g "frozen" 5 (Spp (fun q : Ice => [tFd C q.1.1 q.1.2.1, tSh q.1.2.2.1]) (fun q => tEx (Frz q.1.2.2.2.2 (vdOf q.1.2.1 q.1.2.2.1 q.1.2.2.2.1) q.1.2.2.1.2) tBk))
abbrev FnFrow (g : Gc) (C : Addr) := Fn g "frozen_row" 5 (Spp (fun q : Ice => [tFd C q.1.1 q.1.2.1, tSh q.1.2.2.1]) (fun q => tRow (imgOf (vdOf q.1.2.1 q.1.2.2.1 q.1.2.2.2.1) q.1.2.2.1.1)))
theorem ex_book {told : Nm → List Row} (b0 : Book) : Sub (tTu (b0.map fun t => tTu [tNm t.1, tNt t.2.1, tEx (Same (told t.1)) tRows])) (tEx (fun r : Book => r.map (fun t => (t.1, t.2.1)) = b0.map (fun t => (t.1, t.2.1)) ∧ ∀ t ∈ r, Same (told t.1) t.2.2) tBk) := by
  intro S v ⟨a, vs, h1, h2, h3⟩
  suffices k : ∃ r : Book, (r.map (fun t => (t.1, t.2.1)) = b0.map (fun t => (t.1, t.2.1)) ∧ ∀ t ∈ r, Same (told t.1) t.2.2) ∧ Tys S (r.map tTab) vs by
    obtain ⟨r, k1, k2⟩ := k
    exact ⟨r, k1, a, vs, h1, h2, k2⟩
  clear h1 h2
  induction b0 generalizing vs with
  | nil =>
    cases h3
    exact ⟨[], ⟨rfl, fun t ht => by cases ht⟩, .nil⟩
  | cons t b0 ih =>
    cases h3 with
    | cons k1 k2 =>
      obtain ⟨r, ⟨r1, r2⟩, r3⟩ := ih _ k2
      obtain ⟨x, ws, e1, e2, e3⟩ := k1
      obtain ⟨p, q, y, rfl, f1, f2, rr, f3, f4⟩ := e3.three
      refine ⟨(t.1, t.2.1, rr) :: r, ⟨by rw [List.map_cons, List.map_cons, r1], fun u hu => ?_⟩, .cons ⟨x, _, e1, e2, .cons f1 (.cons f2 (.cons f4 .nil))⟩ r3⟩
      rcases List.mem_cons.mp hu with rfl | hu
      · exact f3
      · exact r2 u hu
theorem some_get {α : Type} {o : Option α} {d : α} (h : o.isSome = true) : o = some (o.getD d) := by
  cases o with
  | none => cases h
  | some v => rfl
theorem ok_frozen_row {C : Addr} (c : FdC g C) (b : Gb g) (F : Df g "frozen_row" (top 56)) (F1 : FnValues g C) : FnFrow g C := by
  refine fn_mk (N := ["field", "sheet", "values", "mark"]) (ps := ["field", "sheet"]) F ⟨rfl, rfl, rfl, by decide +kernel, rfl, by decide +kernel, by decide +kernel⟩ (fun _ => rfl) (by decide) (hb2 fun _ _ _ _ _ _ _ _ => rfl) (fun _ _ _ h => h) fun q M S_0 H_0 _ => ?_
  obtain ⟨⟨bs, nm, ⟨hd, ls⟩, n, b0⟩, h⟩ := q
  have h : IceOk bs nm (hd, ls) n b0 := h
  refine xb_set 2 (x_callI F1 ⟨(bs, nm, (hd, ls), n), h.fr⟩ (xa_2 (x_var 0) (x_var 1)) trivial) ?_
  refine xb_rt' (x_ty (x_tupL (x_lcA (xs := hd) (own := [("mark", 3)]) (vs := [3]) (T := tMk) (U := fun m => tVl ((valA (vdOf nm (hd, ls) n) m).getD v0)) (G1 := fun m => [.ty (tFd C bs nm), .ty (tSh (hd, ls)), .ty (tDT (vdT (vdOf nm (hd, ls) n))), .ty (tMk m)]) (xi_tup (x_ixT (n := 0) (t := tMs hd) (x_var 1) x_int rfl)) rfl (blkOk_by (by decide +kernel)) (Nat.le_trans h.fr.hf (by decide)) (fun m _ => xg_name 3) fun m hm => ?_) b.tuple) ?_)
  · exact x_getT (k := kMk m) (x_var 2) (x_var 3) (by rw [valA_vd, some_get (d := v0) (h.covh m hm)]; rfl)
  · unfold tRow imgOf
    rw [List.map_map]
    rfl
theorem ok_frozen {C : Addr} (c : FdC g C) (b : Gb g) (F : Df g "frozen" (top 55)) (F1 : FnValues g C) (F2 : Fn g "risen" 4 (Spp (fun xs : Rows => [tLs (xs.1.map tRow)]) (fun xs => tEx (Same xs.1) tRows))) : FnFrozen g C := by
  refine fn_mk (N := ["field", "sheet", "values", "found", "name", "columns", "rows", "told", "other", "marks", "mark"]) (ps := ["field", "sheet"]) F ⟨rfl, rfl, rfl, by decide +kernel, rfl, by decide +kernel, by decide +kernel⟩ (fun _ => rfl) (by decide) (hb2 fun _ _ _ _ _ _ _ _ => rfl) (fun _ _ _ h => h) fun q M S_0 H_0 _ => ?_
  obtain ⟨⟨bs, nm, ⟨hd, ls⟩, n, b0⟩, h⟩ := q
  have h : IceOk bs nm (hd, ls) n b0 := h
  have hl : ls.length ≤ 1000 := h.ln
  obtain ⟨z, hz⟩ : ∃ z, z = vdOf nm (hd, ls) n := ⟨_, rfl⟩
  refine xb_set 2 (t := tDT (vdT z)) (x_ty (x_callI F1 ⟨(bs, nm, (hd, ls), n), h.fr⟩ (xa_2 (x_var 0) (x_var 1)) trivial) (by rw [hz])) ?_
  refine xb_own 3 (xf_lst xa_nil) fun _ P _ => ?_
  refine xb_for (ts := b0.map tTab) (fun i (_ : Unit) => True) (fun i _ => [.ty (tFd C bs nm), .ty (tSh (hd, ls)), .ty (tDT (vdT z)), .own P (.lst ((b0.take i).map fun t => tTu [tNm t.1, tNt t.2.1, tEx (Same (toldOf z ls t.1)) tRows])), .unk, .unk, .unk, .unk, .unk, .unk, .unk]) (G1 := fun i _ => match b0[i]? with
    | some t => [.ty (tFd C bs nm), .ty (tSh (hd, ls)), .ty (tDT (vdT z)), .own P (.lst ((b0.take i).map fun t => tTu [tNm t.1, tNt t.2.1, tEx (Same (toldOf z ls t.1)) tRows])), .ty (tNm t.1), .ty (tNt t.2.1), .ty (tRows t.2.2), .unk, .unk, .unk, .unk]
    | none => []) (vs := [4, 5, 6]) (xi_tup (x_ixT (n := 0) (t := tBk b0) (x_books c (x_var 0)) x_int (by rw [List.getElem?_map, h.bk]; rfl))) () trivial rfl (fun i _ t hit _ => ?_) (fun i _ t B' hit _ _ => ?_) fun _ _ => ?_
  · obtain ⟨t, ht, _, rfl⟩ := map_get hit
    rw [ht]
    exact xg_tup (xgs_cons (xg_name 4) (xgs_cons (xg_name 5) (xgs_cons (xg_name 6) xgs_nil)))
  · obtain ⟨t, ht, _, rfl⟩ := map_get hit
    rw [ht, take_succ_get ht, List.map_append]
    refine xb_setC 7 (xsc_L 7 (own := [("other", 8), ("marks", 9)]) (vs := [8, 9]) (T := tLn) (U := fun l : Line => tRow (imgOf z l.2)) (f := fun l : Line => decide (l.1 = t.1)) (xs := ls) (G1 := fun l => [.ty (tFd C bs nm), .ty (tSh (hd, ls)), .ty (tDT (vdT z)), .own P (.lst ((b0.take i).map fun t => tTu [tNm t.1, tNt t.2.1, tEx (Same (toldOf z ls t.1)) tRows])), .ty (tNm t.1), .ty (tNt t.2.1), .ty (tRows t.2.2), .unk, .ty (tNm l.1), .ty (tMs l.2), .unk]) rfl (xi_tup (x_ixT (n := 1) (t := tLns ls) (x_var 1) x_int rfl)) (blkOk_by (by decide +kernel)) (by omega)
      (fun D l _ => xg_tup (xgs_cons (xg_name 8) (xgs_cons (xg_name 9) xgs_nil))) (fun D l _ => xts_one (xt_eqE encNm (x_var 8) (x_var 4))) fun D l hlm _ => ?_) ?_
    · refine x_ty (x_tupL (x_lcA (xs := l.2) (own := [("mark", 10)]) (vs := [10]) (T := tMk) (U := fun m => tVl ((valA z m).getD v0)) (G1 := fun m => [.ty (tFd C bs nm), .ty (tSh (hd, ls)), .ty (tDT (vdT z)), .own P (.lst ((b0.take i).map fun t => tTu [tNm t.1, tNt t.2.1, tEx (Same (toldOf z ls t.1)) tRows])), .ty (tNm t.1), .ty (tNt t.2.1), .ty (tRows t.2.2), .unk, .ty (tNm l.1), .ty (tMs l.2), .ty (tMk m)]) (xi_tup (x_var 9)) rfl (blkOk_by (by decide +kernel)) (Nat.le_trans (h.lw l hlm) (by decide)) (fun m _ => xg_name 10) fun m hm => ?_) b.tuple) ?_
      · exact x_getT (k := kMk m) (x_var 2) (x_var 10) (by rw [valA_vd, some_get (d := v0) (show (valA z m).isSome = true by rw [hz]; exact h.cov l hlm m hm)]; rfl)
      · unfold tRow imgOf
        rw [List.map_map]
        rfl
    · have e2 : ((ls.filter fun l : Line => decide (l.1 = t.1)).map fun l => tRow (imgOf z l.2)) = (toldOf z ls t.1).map tRow := by
        unfold toldOf
        rw [List.map_map]
        rfl
      refine xb_app 3 rfl (x_tup (ts := [tNm t.1, tNt t.2.1, tEx (Same (toldOf z ls t.1)) tRows]) (xa_3 (x_var 4) (x_var 5) (x_callI F2 ⟨toldOf z ls t.1, ?_, ?_⟩ (xa_1 (x_ty (x_var 7) (by show tLs _ = _; rw [e2]))) trivial))) (by rw [List.length_map, List.length_take]; have := h.bl; omega) (xb_nil fun σ H ct => ⟨(), trivial, ct.forget⟩)
      · unfold toldOf
        rw [List.length_map]
        exact Nat.le_trans (List.length_filter_le _ _) (by omega)
      · intro r hr
        obtain ⟨l, hlm, rfl⟩ := List.mem_map.mp hr
        unfold imgOf
        rw [List.length_map]
        exact h.lw l (List.mem_filter.mp hlm).1
  · rw [List.length_map, List.take_length]
    refine xb_frz 3 rfl (xb_rt (x_tupL (x_var 3) b.tuple) ?_)
    rw [hz]
    exact ex_book b0
end Z
end

section
/-! T15: named_of, deeds_of. -/
namespace Z
open PySem PySem.Spec L2 PySem.W ZL
variable {g : Gc}
abbrev FnVrisen (g : Gc) := Fn g "values_risen" 3 (Spp (fun q : Bool × { xs : List Vl // xs.length ≤ 1000 } => [tSeq q.1 (q.2.1.map tVl)]) (fun q => tEx (Same q.2.1) tVls))
abbrev FnNamed (g : Gc) := Fn g "named_of" 4 (Spp (fun q : { xs : List Vl // xs.length ≤ 3 } => [tVls q.1]) (fun q => tEx (Same q.1) tVls))
theorem ok_named_of (b : Gb g) (F : Df g "named_of" (top 33)) (F1 : FnVal g) (F2 : FnVrisen g) : FnNamed g := by
  refine fn_mk (N := ["thing", "found", "value"]) (ps := ["thing"]) F ⟨rfl, rfl, rfl, by decide +kernel, rfl, by decide +kernel, by decide +kernel⟩ (fun _ => rfl) (by decide) (hb1 fun _ _ _ _ _ _ _ => rfl) (fun _ _ _ h => h) fun q M S_0 H_0 _ => ?_
  obtain ⟨xs, h3⟩ := q
  refine xb_when (xw_t (xw_orB (x := false) (y := false) (xt_notB (x := true) (xt_bl (x_isi2 (x := false) (y := true) (x_var 0) tag_tu (by decide +kernel) (by decide +kernel) b.isinstance b.list b.tuple boot_list' boot_tuple'))) fun _ => xw_or1 (xt_notB (x := true) (xt_bl (x_allT (xs := xs) (x_lcA (own := [("value", 2)]) (vs := [2]) (T := tVl) (U := fun _ => tBl true) (xi_tup (x_var 0)) rfl (blkOk_by (by decide +kernel)) (by omega) (fun v _ => xg_name 2) fun v _ => x_callI F1 v (xa_1 (x_var 2)) trivial) b.all))))) (fun h => nomatch h) fun _ => ?_
  refine xb_set 1 (t := tEx (Same xs) tVls) (x_callI F2 (false, ⟨xs, by omega⟩) (xa_1 (x_var 0)) trivial) (xb_open 1 rfl fun r hr => ?_)
  have hl := nodup_len hr.1 fun x hx => (hr.2 x).mp hx
  refine xb_when (xt_is (y := false) (xt_gt (x_lenT (x_var 1) b.len) (x_int0 b.NAMED)) (decide_eq_false (show ¬ (3 : Int) < ((r.map tVl).length : Int) by rw [List.length_map]; omega))) (fun h => nomatch h) fun _ => ?_
  exact xb_rt (x_var 1) (show Sub (tVls r) (tEx (Same xs) tVls) from fun S v h => ⟨r, hr, h⟩)
/-! deeds -/
instance (priority := 5000) decNm (v : Nm) (u : List Nm) : Decidable (v ∈ u) := @List.instDecidableMemOfLawfulBEq Nm instBEqOfDecidableEq _ v u
def deedsW : List Nm := [⟨"below", by decide +kernel⟩, ⟨"join", by decide +kernel⟩, ⟨"less", by decide +kernel⟩, ⟨"same", by decide +kernel⟩, ⟨"take", by decide +kernel⟩, ⟨"union", by decide +kernel⟩, ⟨"value", by decide +kernel⟩, ⟨"with", by decide +kernel⟩, ⟨"without", by decide +kernel⟩]
structure DdC (g : Gc) : Prop where
  ok : ∃ (a : Addr) (o : Obj) (its : Array Value) (n : Nat), g.mg "DEEDS" = some (.ref a) ∧ g.K.lookup a = some o ∧ o.cls = .type "tuple" ∧ o.data = .seq its n ∧ its.size ≤ sizeLine ∧ Vals (deedsW.map fun w => V.str w.1) its.toList
theorem walk_ktup {K : PySem.W.Frag} {S : Hp} {a : Addr} {vs : List V} {ts : List Ty} (h : ∀ H, SqT K H a vs) (r : Tys S ts vs) : Walk (Itt K a) S ts where
  go := fun S' H' i t e1 e2 hi => by
    obtain ⟨v, hv, hT⟩ := r.get hi
    have hq : SqT K H' a vs := h H'
    refine ⟨⟨vs, v, hq, hv⟩, fun x H2 ⟨y1, y2⟩ => ?_⟩
    subst y1
    have e := y2 vs hq
    rw [hv] at e
    cases e
    exact ⟨S', Gr.refl e2, t.mono e1 hT⟩
  stop := fun S' H' e1 e2 => ⟨vs, h H', by rw [r.len]; exact Nat.le_refl _⟩
section
variable {l : Lc} {M : Md} {G : List Slot} {a tg : Expr} {p pos : Pos}
theorem xi_deeds (d : DdC g) (hg : l.sc.names.lookup ("DEEDS" : Str) = some .globalImplicit := by rfl) : XI g l M G tg (.Name "DEEDS" p) (deedsW.map tNm) := by
  obtain ⟨c, o, its, n, h1, h2, h3, h4, h5, h6⟩ := d.ok
  intro X A
  have hx : XE g l M G (.Name "DEEDS" p) (cst (.ref c)) := x_glob h1 rfl hg
  refine convI (pi_tup (hx X A)) fun σ H R ⟨S, pr, q⟩ => tE.step pr fun v S1 H1 q1 p1 hv => ?_
  have hT : ∀ H, SqT X.K H c (deedsW.map fun w => V.str w.1) := fun H => .inr ⟨o, its, n, by rw [A.K]; exact h2, h3, h4, h5, h6⟩
  exact ⟨c, hv, ⟨_, hT _⟩, q _ S1 H1 q1 (walk_ktup hT (Tys.map fun w _ => rfl))⟩
theorem x_inDeeds (d : DdC g) {w : Nm} (hw : w ∈ deedsW) (ha : XE g l M G a (tNm w)) (hg : l.sc.names.lookup ("DEEDS" : Str) = some .globalImplicit := by rfl) (hm : behindInMarks .In (.Name "DEEDS" p) = false := by rfl) : XE g l M G (.Compare a [.In] [.Name "DEEDS" p] pos) (tBl true) := by
  obtain ⟨c, o, its, n, h1, h2, h3, h4, h5, h6⟩ := d.ok
  refine x_cmp (f := rIn g.K false) (fun X A => by rw [← A.K]; exact op_in_seq) (fun S H v y Q e hx hy k => ?_) ha (x_glob h1 (v := .ref c) rfl hg) hm
  cases hx
  cases hy
  refine ⟨c, _, rfl, .inr (.inr ⟨o, its, n, h2, h3, h4, h5, h6⟩), rfl, by rw [List.all_map]; exact List.all_eq_true.mpr fun _ _ => rfl, ?_⟩
  rw [show (if false = true then !inV (V.str w.1) (deedsW.map fun w => V.str w.1) else inV (V.str w.1) (deedsW.map fun w => V.str w.1)) = true by
    rw [if_neg (by decide)]
    unfold inV
    rw [List.any_map, List.any_eq_true]
    exact ⟨w, hw, by show (w.1 == w.1) = true; exact beq_self_eq_true _⟩]
  exact k _ S H (Gr.refl e) rfl
end
abbrev FnDeeds (g : Gc) := Fn g "deeds_of" 1 (Spp (fun q : { xs : List Nm // xs.length ≤ 1000 ∧ ∀ x ∈ xs, x ∈ deedsW } => [tTu (q.1.map tNm)]) (fun q => tTu ((deedsW.filter fun w => decide (w ∈ q.1)).map tNm)))
theorem ok_deeds_of (b : Gb g) (d : DdC g) (F : Df g "deeds_of" (top 34)) : FnDeeds g := by
  refine fn_mk (N := ["thing", "word"]) (ps := ["thing"]) F ⟨rfl, rfl, rfl, by decide +kernel, rfl, by decide +kernel, by decide +kernel⟩ (fun _ => rfl) (by decide) (hb1 fun _ _ _ _ _ _ _ => rfl) (fun _ _ _ h => h) fun q M S_0 H_0 _ => ?_
  obtain ⟨xs, h1, h2⟩ := q
  refine xb_when (xw_t (xw_orB (x := false) (y := false) (xt_notB (x := true) (xt_bl (x_isi2 (x := false) (y := true) (x_var 0) tag_tu (by decide +kernel) (by decide +kernel) b.isinstance b.list b.tuple boot_list' boot_tuple'))) fun _ => xw_or1 (xt_notB (x := true) (xt_bl (x_allT (xs := xs) (x_lcA (own := [("word", 1)]) (vs := [1]) (T := tNm) (U := fun _ => tBl true) (xi_tup (x_var 0)) rfl (blkOk_by (by decide +kernel)) (by omega) (fun v _ => xg_name 1) fun v hv => x_andB (x := true) (y := true) (x_isi (x_var 1) tag_st (by decide +kernel) b.isinstance b.str boot_str') fun _ => x_one (x_inDeeds d (h2 v hv) (x_var 1))) b.all))))) (fun h => nomatch h) fun _ => ?_
  exact xb_rt' (x_tupL (x_lcD (xs := deedsW) (own := [("word", 1)]) (vs := [1]) (T := tNm) (U := tNm) (f := fun w => decide (w ∈ xs)) (G1 := fun w => [.ty (tTu (xs.map tNm)), .ty (tNm w)]) (xi_deeds d) rfl (blkOk_by (by decide +kernel)) (by decide) (fun v _ => xg_name 1) (fun v _ => xts_one (xt_inT encNm (x_var 1) (x_var 0))) fun v _ _ => x_var 1) b.tuple)
end Z
end

section
/-! T16: a field is made. -/
namespace Z
open PySem PySem.Spec L2 PySem.W ZL
variable {g : Gc}
theorem putF_new {f : Str} {v : V} : ∀ {ws : List (Str × V)}, (∀ q ∈ ws, q.1 ≠ f) → putF f v ws = ws ++ [(f, v)]
  | [], _ => rfl
  | (k, x) :: r, h => by
    show (if k = f then (k, v) :: r else (k, x) :: putF f v r) = _
    rw [if_neg (h _ (List.mem_cons_self ..)), putF_new fun q hq => h q (List.mem_cons_of_mem _ hq)]
    rfl
def XK (g : Gc) (l : Lc) (M : Md) (G : List Slot) (ks : List Keyword) (ts : List Ty) : Prop := ∀ X, At g l X → PK X ks (tA M G ts)
section
variable {l : Lc} {M : Md} {B S_0 H_0 : Hp} {G : List Slot} {pos p tpos kpos : Pos} {e a : Expr} {t u : Ty} {ts : List Ty} {ks : List Keyword} {rest : List Stmt} {D : Ends} {nm : Option Str}
theorem xk_nil : XK g l M G [] [] := fun X A => ⟨fun pos pins s σ H Q I ⟨S, pr, q⟩ => pk_nil.run pos pins s σ H Q I (q [] S H (Post.of pr.2.1 (Gr.refl pr.1)) .nil)⟩
theorem xk_cons (ha : XE g l M G e t) (hr : XK g l M G ks ts) : XK g l M G (⟨nm, e, kpos⟩ :: ks) (t :: ts) := fun X A =>
  ⟨fun pos pins s σ H Q I ⟨S, pr, q⟩ => (pk_cons (ha X A) (hr X A)).run pos pins s σ H Q I (tE.step pr fun v S1 H1 q1 p1 h1 => tA.step p1 fun vs S2 H2 q2 p2 h2 => q (v :: vs) S2 H2 (q1.trans q2) (.cons (t.mono q2.1.ss h1) h2))⟩
/-- self.f = e, a new field -/
theorem xb_fld (i : Nat) {fs : List (Str × Ty)} {f x : Str} {px pa : Pos} {p C : Addr} (hG : G[i]? = some (.own p (.ins C fs))) (he : XE g l M G e t) (hl : fs.length < 100) (hnew : ∀ q ∈ fs, q.1 ≠ f) (cls : Cls g.K C) (na : NoAttr g.K C f)
    (k : XB g l (Ct M B S_0 H_0 (G.set i (.own p (.ins C (fs ++ [(f, t)]))))) rest D) (hN : l.N[i]? = some x := by rfl) (hv : Vis l.sc x := by first | exact Or.inl rfl | exact Or.inr (Or.inl rfl) | exact Or.inr (Or.inr rfl)) (h1 : (x == ("__debug__" : Str)) = false := by decide) (h2 : (x == ("__classdict__" : Str)) = false := by decide)
    (hs : ∀ env, swapsWith e (some (.Attribute (.Name x px) f pa)) pos.line env = pure false := by intro _; rfl) : XB g l (Ct M B S_0 H_0 G) (.Assign [.Attribute (.Name x px) f pa] e pos :: rest) D :=
  xb_cons (Ct M B S_0 H_0 (G.set i (.own p (.ins C (fs ++ [(f, t)]))))) (fun X A =>
    convS (ps_fld (pe_var (i := i) (by rw [A.N]; exact hN) (A.vis hv) h1 h2) (he X A) (hs _)) fun D' σ H ⟨ct, le⟩ => by
      obtain ⟨S, c1, c2, pr⟩ := ct.get
      refine tE.step pr fun v S1 H1 q1 p1 hv1 => ?_
      obtain ⟨y, k1, k2, k3, k4, o, k5, dx, zs, k6, k7⟩ := p1.2.2.at_ i _ hG
      subst k2 k6
      have kl := k7.len
      have kn : ∀ q ∈ zs, q.1 ≠ f := fun q hq e => by
        have hm : q.1 ∈ zs.map (·.1) := List.mem_map_of_mem hq
        rw [k7.keys] at hm
        obtain ⟨q', hq', e'⟩ := List.mem_map.mp hm
        exact hnew q' hq' (e'.trans e)
      refine ⟨_, k1, p, C, dx, zs, rfl, k5, by rw [A.K]; exact cls, by rw [A.K]; exact na, by omega, le.nx _ _ ?_⟩
      rw [putF_new kn]
      exact Ct.wr (c1.comp q1.1.ss) (c2.trans q1.1) p1 hG ⟨dx, _, rfl, k7.snoc f hv1⟩) k
end
/-- a cell of one's own, at the end -/
theorem Ct.cell {M : Md} {B S_0 H_0 : Hp} {G : List Slot} {σ : L2.St} {H : Hp} (h : Ct M B S_0 H_0 G σ H) {i : Nat} {p : Addr} {c : Cell} (hG : G[i]? = some (.own p c)) : ∃ S, Gr M.ch S_0 H_0 S H ∧ M.inv S H ∧ c.ty.is S (.ref p) := by
  obtain ⟨S, c1, c2, pr⟩ := h.get
  obtain ⟨o, s1, s2, s3, s4, s5, _, s6⟩ := frz_env pr hG
  obtain ⟨x, m1, m2, m3, m4, _⟩ := pr.2.2.at_ i _ hG
  have hp : H_0 p = none := by
    cases e : H_0 p with
    | none => rfl
    | some u => exact absurd ((c2.dm p).mpr (by rw [e]; exact fun z => nomatch z)) m3.2
  have hi : i < G.length := (List.getElem?_eq_some_iff.mp hG).1
  obtain ⟨y, n1, v, n2, n3⟩ := s5.2.2.at_ i _ (List.getElem?_set_self hi)
  rw [m1, m2] at n1
  subst n2
  cases n1
  exact ⟨_, c2.gr.freeze hp s1 s3, s5.2.1, n3⟩
/-- what a class's __init__ promises -/
def Spi {ι : Type} (C : Addr) (as : ι → List Ty) (r : ι → Ty) : Sp := fun vs H Q _ => ∃ (M : Md) (i : ι) (S H1 : Hp) (x dx : Addr) (ws : List V), vs = .ref x :: ws ∧ H1 x = none ∧ H1 dx = none ∧ dx ≠ x ∧ H = upd (upd H1 dx (.own x)) x (.ins C dx []) ∧ Ex S H1 ∧ M.inv S H1 ∧ Tys S (as i) ws ∧
  ∀ S' H', Post M S H1 S' H' → (r i).is S' (.ref x) → Q .non H'
/-- an __init__ of the text -/
structure Di (g : Gc) (qual : Str) (C : Addr) (st : Stmt) (kws : List (Str × V)) : Prop where
  ex : ∃ f fd, FunD g.K "__init__" qual (defArgs st) (defBody st) (defScope st) [] kws f fd ∧ Mk g.K C f
theorem env_init {M : Md} {S H : Hp} {N : List Str} {ts : List Ty} {vs : List V} {x dx C : Addr} (h : Tys S ts vs) (hl : ts.length + 1 ≤ N.length) (he : Ex S H) (hx : H x = none) (hn : ¬ M.ch x ∧ ¬ M.dom x) :
    Env M S (upd (upd H dx (.own x)) x (.ins C dx [])) (start N (.ref x :: vs)) (.own x (.ins C []) :: (ts.map Slot.ty ++ List.replicate (N.length - (ts.length + 1)) .unk)) := by
  have e := env_start (M := M) (S := S) (H := upd (upd H dx (.own x)) x (.ins C dx [])) (N := N) (ts := cst (.ref x) :: ts) (vs := .ref x :: vs) (.cons rfl h) hl
  have eG : ((cst (.ref x) :: ts).map Slot.ty ++ List.replicate (N.length - (cst (.ref x) :: ts).length) .unk) = .ty (cst (.ref x)) :: (ts.map Slot.ty ++ List.replicate (N.length - (ts.length + 1)) .unk) := rfl
  rw [eG] at e
  refine ⟨e.len, fun i s hi => ?_, fun i j p c q d hi hj n => ?_⟩
  · cases i with
    | zero =>
      cases hi
      obtain ⟨y, h1, v, h2, h3⟩ := e.at_ 0 _ rfl
      cases h3
      exact ⟨y, h1, h2, hn, he.none hx, _, upd_same, dx, [], rfl, .nil⟩
    | succ i => exact e.at_ (i + 1) s hi
  · have key : ∀ {i : Nat} {p : Addr} {c : Cell}, (.own x (.ins C []) :: (ts.map Slot.ty ++ List.replicate (N.length - (ts.length + 1)) .unk))[i]? = some (Slot.own p c) → i = 0 := fun {i p c} hi => by
      cases i with
      | zero => rfl
      | succ i =>
        exfalso
        rw [List.getElem?_cons_succ] at hi
        by_cases hc : i < ts.length
        · rw [List.getElem?_append_left (by rw [List.length_map]; exact hc), List.getElem?_map] at hi
          obtain ⟨t, ht, e⟩ := Option.map_eq_some_iff.mp hi
          cases e
        · rw [List.getElem?_append_right (by rw [List.length_map]; omega), List.getElem?_replicate] at hi
          split at hi
          · cases hi
          · cases hi
    rw [key hi, key hj] at n
    exact absurd rfl n
theorem init_mk {qual : Str} {st : Stmt} {N ps : List Str} {k : Nat} {ι : Type} {as : ι → List Ty} {r : ι → Ty} {C f : Addr} {fd : FuncData} {kws : List (Str × V)} (FD : FunD g.K "__init__" qual (defArgs st) (defBody st) (defScope st) [] kws f fd) (S : FnScope N ps (defScope st)) (hl : ∀ i, (as i).length + 1 = ps.length) (hN : ps.length ≤ N.length)
    (body : ∀ (i : ι) (M : Md) (S_0 H_0 : Hp) (x : Addr), XB g ⟨N, defScope st, k, fun _ => true⟩ (Ct M S_0 S_0 H_0 (.own x (.ins C []) :: ((as i).map Slot.ty ++ List.replicate (N.length - ((as i).length + 1)) .unk))) (defBody st)
      { nx := fun _ H => ∃ S, Gr M.ch S_0 H_0 S H ∧ M.inv S H ∧ (r i).is S (.ref x), rt := fun _ _ => False }) : FnOk g.P g.w g.K g.mg g.base CX0 (k + 1) f fd ps (Spi C as r) := by
  refine FD.ok S (fun vs H Q E h => ?_) (fun cdv A outer s H vs Q E hr h => ?_)
  · obtain ⟨M, i, S1, H1, x, dx, ws, rfl, _, _, _, _, _, _, h4, _⟩ := h
    rw [← hl i, h4.len]
    rfl
  · obtain ⟨M, i, S1, H1, x, dx, ws, rfl, h1, h2, h3, rfl, h5, h6, h7, h8⟩ := h
    have b := body i { M with dom := fun a => H1 a ≠ none } S1 H1 x (cxOf CX0 g.P g.w g.K g.mg g.base N qual (defScope st) f cdv A outer s (upd (upd H1 dx (.own x)) x (.ins C dx [])) E).nox ⟨rfl, rfl, rfl, rfl, rfl, rfl, rfl, hr, rfl, S.nd, fun _ _ => rfl, rfl, S.kind⟩
    have g1 : Gr no S1 H1 S1 (upd (upd H1 dx (.own x)) x (.ins C dx [])) := (Gr.lay h5 h2).trans (Gr.lay (Gr.lay h5 h2).sh (by rw [upd_ne h3.symm]; exact h1))
    refine ⟨_, b.nox, ⟨S1, Ex.rfl', ⟨g1.weak, fun a => Iff.rfl⟩, M.stabG g1 h6, env_init h7 (by rw [hl i]; exact hN) h5 h1 ⟨M.fresh h6 h1, fun z => z h1⟩⟩, ⟨fun σ H' ⟨S2, k1, k2, k3⟩ => h8 S2 H' ⟨k1, k2⟩ k3, fun v H' z => z.elim, fun _ _ z => z, fun _ _ z => z⟩⟩
/-- a class's maker, keywords alone behind the first n -/
structure Fm (g : Gc) (x : Str) (C : Addr) (n k : Nat) (ks : List Str) {ι : Type} (as : ι → List Ty) (r : ι → Ty) : Prop where
  ex : ∃ f fd ps, ∃ gg : List Value → List Value → List Value, FnOk g.P g.w g.K g.mg g.base CX0 k f fd ps (Spi C as r) ∧ Mk g.K C f ∧ g.mg x = some (.ref C) ∧ KBn g.K fd ps (n + 1) ks gg (fun vs zs => vs ++ zs)
section
variable {l : Lc} {M : Md} {G : List Slot} {pos p : Pos} {e : Expr} {es : List Expr} {ts us : List Ty} {kws : List Keyword}
theorem x_makeK {ι : Type} {x : Str} {C : Addr} {n k : Nat} {ks : List Str} {as : ι → List Ty} {r : ι → Ty} (F : Fm g x C n k ks as r) (hk : k + 1 ≤ l.k) (ha : XA g l M G (e :: es) ts) (hkw : XK g l M G kws us) (i : ι) (hi : as i = ts ++ us) (hn : ts.length = n) (hm : us.length = ks.length) (hg : l.sc.names.lookup x = some .globalImplicit := by rfl)
    (hall : ∀ env, (backToKw pos (keywordEach kws env)).all (·.1.isSome) = true := by intro _; rfl) (hks : ∀ env, (backToKw pos (keywordEach kws env)).filterMap (·.1) = ks := by intro _; rfl) (hdb : (x == ("__debug__" : Str)) = false := by decide)
    (he : ∀ env, starEach (e :: es) env = (false, eval e env) :: starEach es env := by intro _; rfl) (hpl : ∀ env, ((backTo pos (starEach (e :: es) env)).any (·.1) || (backToKw pos (keywordEach kws env)).any (·.1.isNone)) = false := by intro _; rfl) :
    XE g l M G (.Call (.Name x p) (e :: es) kws pos) (r i) := fun X A => by
  obtain ⟨f, fd, ps, gg, F1, m, hx, kb⟩ := F.ex
  rw [← A.prog, ← A.w, ← A.K, ← A.mg, ← A.base] at F1
  rw [← A.mg] at hx
  rw [← A.K] at m kb
  refine conv (pe_makeK m F1 (A.room.mono hk) (A.gl hg) hx kb pass0 (ha X A) (hkw X A) (hall _) (hks _) hdb (he _) (hpl _)) fun σ H Q ⟨S, pr, q⟩ => tA.step pr fun vs S1 H1 q1 p1 h1 => tA.step p1 fun zs S2 H2 q2 p2 h2 => ?_
  refine ⟨by rw [← h1.len, hn], by rw [← h2.len, hm], fun y dx e1 e2 e3 => ⟨M, i, S2, H2, y, dx, vs ++ zs, rfl, e1, e2, e3, rfl, p2.1, p2.2.1, by rw [hi]; exact (h1.mono q2.1.ss).app h2, fun S' H' q3 h3 => ⟨rfl, q _ S' H' ((q1.trans q2).trans q3) h3⟩⟩⟩
end
/-! Field -/
structure MkOk1 (q : List Book × List Vl × List Nm) : Prop where
  bs : BooksOk q.1
  nm : q.2.1.length ≤ 3
  dl : q.2.2.length ≤ 1000
  dd : ∀ x ∈ q.2.2, x ∈ deedsW
abbrev Fq := { q : List Book × List Vl × List Nm // MkOk1 q }
abbrev FmField (g : Gc) (C : Addr) := Fm g "Field" C 1 10 ["named", "deeds"] (fun q : Fq => [tBks q.1.1, tVls q.1.2.1, tTu (q.1.2.2.map tNm)]) (fun q => tEx (Same q.1.2.1) (tFd C q.1.1))
theorem sub_fd {C : Addr} {bs : List Book} {xs : List Vl} {u : Ty} : Sub (tIs C [("books", tBks bs), ("named", tEx (Same xs) tVls), ("deeds", u)]) (tEx (Same xs) (tFd C bs)) := by
  intro S v ⟨a, dx, vs, h1, h2, h3⟩
  cases h3 with
  | cons k1 h3 =>
    cases h3 with
    | cons k2 h3 =>
      obtain ⟨r, k2, k3⟩ := k2
      exact ⟨r, k2, a, dx, _, _, _, h1, h2, rfl, k1, rfl, k3⟩
structure FdD (g : Gc) (C : Addr) : Prop where
  noD : NoAttr g.K C "deeds"
  mg : g.mg "Field" = some (.ref C)
  ini : ∃ (kws : List (Str × V)), kws ≠ [] ∧ Di g "Field.__init__" C (meth 35 0) kws
theorem ok_field {C : Addr} (c : FdC g C) (d : FdD g C) (F1 : Fn g "are_books" 8 (Spp (fun bs : { bs : List Book // BooksOk bs } => [tBks bs.1]) (fun r => tBl true))) (F2 : FnNamed g) (F3 : FnDeeds g) : FmField g C := by
  obtain ⟨kws, hk, f, fd, FD, mk⟩ := d.ini
  obtain ⟨gg, kb⟩ : ∃ gg, KBn g.K fd ["self", "books", "named", "deeds"] 2 ["named", "deeds"] gg (fun vs zs => vs ++ zs) := by
    obtain ⟨mv, kb⟩ := FD.kbinds0 (ps := ["self", "books", "named", "deeds"]) 2 ["named", "deeds"] [] (fun us _ ws => us ++ ws) hk (fun q hq => by cases hq) (fun h1 _ h3 => h1.append h3) fun D doc pm an cdv ct us mv ws h1 h2 h3 => by
      match us, ws, h1, h3 with
      | [a, b], [c, d], _, _ => 
        cases mv with
        | nil => rfl
        | cons _ _ => cases h2
    exact ⟨_, kb⟩
  refine ⟨f, fd, _, gg, init_mk (N := ["self", "books", "named", "deeds"]) FD ⟨rfl, rfl, rfl, by decide +kernel, rfl, by decide +kernel, by decide +kernel⟩ (fun _ => rfl) (by decide) fun q M S_0 H_0 x => ?_, mk, d.mg, kb⟩
  obtain ⟨⟨bs, nm, dd⟩, h⟩ := q
  refine xb_when (xt_notB (x := true) (xt_bl (x_callI F1 ⟨bs, h.bs⟩ (xa_1 (x_var 1)) trivial))) (fun h => nomatch h) fun _ => ?_
  refine xb_fld 0 rfl (x_var 1) (by decide) (fun q hq => by cases hq) c.cls c.noB ?_
  refine xb_fld 0 rfl (x_callI F2 ⟨nm, h.nm⟩ (xa_1 (x_var 2)) trivial) (show 1 < 100 by decide) (fun q hq => by simp at hq; rw [hq]; exact (by decide : ("books" : Str) ≠ "named")) c.cls c.noN ?_
  refine xb_fld 0 rfl (x_callI F3 ⟨dd, h.dl, h.dd⟩ (xa_1 (x_var 3)) trivial) (show 2 < 100 by decide) (fun q hq => by simp at hq; rcases hq with rfl | rfl; exact (by decide : ("books" : Str) ≠ "deeds"); exact (by decide : ("named" : Str) ≠ "deeds")) c.cls d.noD ?_
  refine xb_nil fun σ H ct => ?_
  obtain ⟨S, k1, k2, k3⟩ := ct.cell (i := 0) rfl
  exact ⟨S, k1, k2, sub_fd _ _ k3⟩
end Z
end

section
/-! T17: the law's state, _law_take. -/
namespace Z
open PySem PySem.Spec L2 PySem.W ZL
variable {g : Gc}
/-! whole numbers of some kind -/
abbrev tIi (p : Int → Prop) : Ty := tEx p tIn
theorem sub_tIi {p q : Int → Prop} (h : ∀ i, p i → q i) : Sub (tIi p) (tIi q) := fun S v ⟨i, a, b⟩ => ⟨i, h i a, b⟩
theorem sub_in {p : Int → Prop} {i : Int} (h : p i) : Sub (tIn i) (tIi p) := fun S v a => ⟨i, h, a⟩
section
variable {l : Lc} {M : Md} {G : List Slot} {pos : Pos} {a b e : Expr} {t u z : Ty} {p q r : Int → Prop}
theorem R2T_ex {ι κ : Type} {f : R2} {p : ι → Prop} {q : κ → Prop} {T : ι → Ty} {U : κ → Ty} (h : ∀ i j, p i → q j → R2T f (T i) (U j) z) : R2T f (tEx p T) (tEx q U) z := fun S H x y Q e ⟨i, h1, h2⟩ ⟨j, h3, h4⟩ k => h i j h1 h3 S H x y Q e h2 h4 k
theorem x_addX (ha : XE g l M G a (tIi p)) (hb : XE g l M G b (tIi q)) (h : ∀ i j, p i → q j → r (i + j)) : XE g l M G (.BinOp a .Add b pos) (tIi r) := x_op (fun X A => op_add) (R2T_ex fun i j h1 h2 => R2T_I0.sub (sub_in (h i j h1 h2))) ha hb
theorem x_mulX (ha : XE g l M G a (tIi p)) (hb : XE g l M G b (tIi q)) (h : ∀ i j, p i → q j → CMul i j ∧ r (i * j)) : XE g l M G (.BinOp a .Mult b pos) (tIi r) := x_op (fun X A => op_mul) (R2T_ex fun i j h1 h2 => (R2T_I (f := fun i j => i * j) (h i j h1 h2).1).sub (sub_in (h i j h1 h2).2)) ha hb
theorem x_modX (ha : XE g l M G a (tIi p)) (hb : XE g l M G b (tIi q)) (h : ∀ i j, p i → q j → 0 < j ∧ r (i % j)) : XE g l M G (.BinOp a .Mod b pos) (tIi r) := x_op (fun X A => op_mod) (R2T_ex fun i j h1 h2 => (R2T_I (C := fun _ j => 0 < j) (f := fun i j => i % j) (h i j h1 h2).1).sub (sub_in (h i j h1 h2).2)) ha hb
theorem x_divX (ha : XE g l M G a (tIi p)) (hb : XE g l M G b (tIi q)) (h : ∀ i j, p i → q j → CDiv i j ∧ r (i / j)) : XE g l M G (.BinOp a .FloorDiv b pos) (tIi r) := x_op (fun X A => op_fdiv) (R2T_ex fun i j h1 h2 => (R2T_I (f := fun i j => i / j) (h i j h1 h2).1).sub (sub_in (h i j h1 h2).2)) ha hb
theorem xt_gtX (ha : XE g l M G a (tIi p)) (hb : XE g l M G b (tIi q)) : XT g l M G (.Compare a [.Gt] [b] pos) (fun _ => True) := xt_cmp (fun X A => op_gt) (R2T_ex fun i j _ _ => (R2T_B0 (f := fun i j => decide (j < i))).sub (sub_bl trivial)) ha hb
theorem xt_geX (ha : XE g l M G a (tIi p)) (hb : XE g l M G b (tIi q)) : XT g l M G (.Compare a [.GtE] [b] pos) (fun _ => True) := xt_cmp (fun X A => op_ge) (R2T_ex fun i j _ _ => (R2T_B0 (f := fun i j => decide (j ≤ i))).sub (sub_bl trivial)) ha hb
theorem xt_leX (ha : XE g l M G a (tIi p)) (hb : XE g l M G b (tIi q)) : XT g l M G (.Compare a [.LtE] [b] pos) (fun _ => True) := xt_cmp (fun X A => op_le) (R2T_ex fun i j _ _ => (R2T_B0 (f := fun i j => decide (i ≤ j))).sub (sub_bl trivial)) ha hb
theorem x_intX {i : Int} {k : Nat} (h : p i) : XE g l M G (.Constant (.int i) k pos) (tIi p) := x_sub x_int (sub_in h)
end
/-! the script, the state -/
theorem sqL_ex {K : PySem.W.Frag} {H H' : Hp} {a : Addr} {xs : List V} (h : SqL K H a xs) (e : Ex H H') : SqL K H' a xs := by
  rcases h with (h | ⟨o, h⟩) | h
  · exact .inl (.inl (e _ _ h))
  · exact .inl (.inr ⟨o, e _ _ h⟩)
  · exact .inr h
def tScr (K : PySem.W.Frag) (ns : List Int) : Ty := ⟨fun S u => ∃ a, u = .ref a ∧ SqL K S a (ns.map V.int), fun e ⟨a, h1, h2⟩ => ⟨a, h1, sqL_ex h2 e⟩⟩
def tSta (K : PySem.W.Frag) (a sc : Addr) (ns : List Int) : Ty := ⟨fun S u => u = .ref a ∧ SqL K S sc (ns.map V.int), fun e ⟨h1, h2⟩ => ⟨h1, sqL_ex h2 e⟩⟩
def PM : Int := 2305843009213693951
def stO (sc : Addr) (c gr mx : Int) : HO := .lst [.ref sc, .int c, .int gr, .int mx]
structure IsSt (a sc : Addr) (M : Md) : Prop where
  ch : M.ch a
  get : ∀ {S H : Hp}, M.inv S H → S a = none ∧ ∃ c gr mx : Int, (0 ≤ mx ∧ mx < PM) ∧ H a = some (stO sc c gr mx)
  put : ∀ {S H : Hp} {c gr mx : Int}, M.inv S H → (0 ≤ mx ∧ mx < PM) → M.inv S (upd H a (stO sc c gr mx))
def stM (a sc : Addr) : Md where
  dom := no
  ch := fun b => b = a
  inv := fun S H => S a = none ∧ ∃ c gr mx : Int, (0 ≤ mx ∧ mx < PM) ∧ H a = some (stO sc c gr mx)
  al := fun {S H b} h e => by
    obtain ⟨_, c, gr, mx, _, h⟩ := h
    exact ⟨_, by rw [show b = a from e]; exact h⟩
  stab := fun {S H S' H'} k _ h => by
    obtain ⟨h0, c, gr, mx, h1, h2⟩ := h
    obtain ⟨k1, k2⟩ := k a _ rfl h2
    exact ⟨by rw [k2 trivial]; exact h0, c, gr, mx, h1, k1⟩
theorem isSt {a sc : Addr} {d : Addr → Prop} : IsSt a sc { stM a sc with dom := d } where
  ch := rfl
  get := fun h => h
  put := fun {S H c gr mx} h k => ⟨h.1, c, gr, mx, k, upd_same⟩
section
variable {l : Lc} {M : Md} {B S_0 H_0 : Hp} {G : List Slot} {pos p : Pos} {a b e : Expr} {t u : Ty} {x sc : Addr} {ns : List Int} {rest : List Stmt} {D : Ends}
/-- state[n] -/
theorem x_st (n : Nat) (hM : IsSt x sc M) (ht : ∀ S (c gr mx : Int), 0 ≤ mx ∧ mx < PM → SqL g.K S sc (ns.map V.int) → ∃ v, ([.ref sc, .int c, .int gr, .int mx] : List V)[n]? = some v ∧ t.is S v) (ha : XE g l M G a (tSta g.K x sc ns)) (hb : XE g l M G b (tIn (n : Int))) (hs : PlainIx b := by exact fun _ _ => rfl) : XE g l M G (.Subscript a b pos) t := fun X A =>
  conv (pe_ix (ixA_lst A) (ha X A) (hb X A) hs) fun σ H Q ⟨S, pr, q⟩ => tE.step pr fun v S1 H1 q1 p1 h1 => tE.step p1 fun w S2 H2 q2 p2 h2 => by
    obtain ⟨e1, e2⟩ := (tSta g.K x sc ns).mono q2.1.ss h1
    subst e1
    cases h2
    obtain ⟨_, c, gr, mx, m1, m2⟩ := hM.get p2.2.1
    obtain ⟨v, v1, v2⟩ := ht S2 c gr mx m1 e2
    exact ⟨x, _, n, v, rfl, rfl, SqL.of m2, atI_nat v1, q v S2 H2 (q1.trans q2) v2⟩
theorem x_st0 (hM : IsSt x sc M) (ha : XE g l M G a (tSta g.K x sc ns)) {k : Nat} : XE g l M G (.Subscript a (.Constant (.int 0) k p) pos) (tScr g.K ns) := x_st 0 hM (fun S c gr mx _ h => ⟨_, rfl, sc, rfl, h⟩) ha x_int
abbrev anyI : Int → Prop := fun _ => True
abbrev mxI : Int → Prop := fun i => 0 ≤ i ∧ i < PM
theorem x_st1 (hM : IsSt x sc M) (ha : XE g l M G a (tSta g.K x sc ns)) {k : Nat} : XE g l M G (.Subscript a (.Constant (.int 1) k p) pos) (tIi anyI) := x_st 1 hM (fun S c gr mx _ h => ⟨_, rfl, c, trivial, rfl⟩) ha x_int
theorem x_st2 (hM : IsSt x sc M) (ha : XE g l M G a (tSta g.K x sc ns)) {k : Nat} : XE g l M G (.Subscript a (.Constant (.int 2) k p) pos) (tIi anyI) := x_st 2 hM (fun S c gr mx _ h => ⟨_, rfl, gr, trivial, rfl⟩) ha x_int
theorem x_st3 (hM : IsSt x sc M) (ha : XE g l M G a (tSta g.K x sc ns)) {k : Nat} : XE g l M G (.Subscript a (.Constant (.int 3) k p) pos) (tIi mxI) := x_st 3 hM (fun S c gr mx m h => ⟨_, rfl, mx, m, rfl⟩) ha x_int
/-- state's place is written -/
theorem Ct.st {σ : L2.St} {S H : Hp} {c gr mx : Int} (hM : IsSt x sc M) (h1 : Ex B S) (h2 : Ent M S_0 H_0 S H) (pr : Pre M G σ S H) (hm : 0 ≤ mx ∧ mx < PM) : Ct M B S_0 H_0 G σ (upd H x (stO sc c gr mx)) := by
  obtain ⟨s0, c0, gr0, mx0, _, ho⟩ := hM.get pr.2.1
  have gr : Gr M.ch S H S (upd H x (stO sc c gr mx)) := ⟨Ex.rfl', fun a u e => by rw [upd_ne (ne_of_none e s0)]; exact pr.1 a u e, fun a u e n => by
    rw [upd_ne (show a ≠ x from fun z => n (by rw [z]; exact hM.ch))]; exact e, fun _ _ _ _ => rfl, fun a u e => by
    by_cases z : a = x
    · subst z
      exact ⟨_, upd_same, fun _ => trivial⟩
    · exact ⟨u, by rw [upd_ne z]; exact e, id⟩⟩
  have iv := hM.put (c := c) (gr := gr0) pr.2.1 hm
  have iv2 : M.inv S (upd H x (stO sc c gr0 mx)) := iv
  exact .of h1 (h2.trans gr) ⟨gr.sh, hM.put pr.2.1 hm, pr.2.2.grow gr⟩
theorem xb_st (n : Nat) (hM : IsSt x sc M) (ha : XE g l M G a (tSta g.K x sc ns)) (hb : XE g l M G b (tIn (n : Int))) (he : XE g l M G e t)
    (hv : ∀ S v (c gr mx : Int), t.is S v → 0 ≤ mx ∧ mx < PM → n < 4 ∧ ∃ c' gr' mx', (0 ≤ mx' ∧ mx' < PM) ∧ ([.ref sc, .int c, .int gr, .int mx] : List V).set n v = [.ref sc, .int c', .int gr', .int mx'])
    (k : XB g l (Ct M B S_0 H_0 G) rest D) (hs : ∀ env, swapsWithSole [.Subscript a b p] e pos.line env = pure false := by intro _; rfl) (hw : ∀ env, swappedStores [.Subscript a b p] e env = pure none := by intro _; rfl)
    (h1 : ∀ env, (assignEach [.Subscript a b p] env).map (·.2) = [assign (.Subscript a b p) env] := by intro _; rfl)
    (h2 : ∀ env v, assign (.Subscript a b p) env v = (do
      let ov ← holding [v] (eval a env)
      let iv ← holding [v, ov] (eval b env)
      standAt p
      holding [v, ov, iv] (setItem ov iv v)
      release [v, ov, iv] []) := by intro _ _; rfl) : XB g l (Ct M B S_0 H_0 G) (.Assign [.Subscript a b p] e pos :: rest) D :=
  xb_cons (Ct M B S_0 H_0 G) (fun X A =>
    convS (ps_asg (he X A) (pg_sub (ha X A) (hb X A) set_list (h2 _)) (hs _) (hw _) (h1 _)) fun D' σ H ⟨ct, le⟩ => by
      obtain ⟨S, c1, c2, pr⟩ := ct.get
      refine tE.step pr fun v S1 H1 q1 p1 hv1 => tE.step p1 fun w S2 H2 q2 p2 hw2 => tE.step p2 fun y S3 H3 q3 p3 hy => ?_
      obtain ⟨e1, _⟩ := (tSta g.K x sc ns).mono q3.1.ss hw2
      subst e1
      cases hy
      obtain ⟨_, c, gr, mx, m1, m2⟩ := hM.get p3.2.1
      obtain ⟨n4, c', gr', mx', m3, m4⟩ := hv S3 v c gr mx (t.mono (q2.1.ss.comp q3.1.ss) hv1) m1
      refine ⟨x, _, (n : Int), n, rfl, rfl, m2, ?_, le.nx _ _ ?_⟩
      · show ixN 4 (n : Int) = some n
        unfold ixN
        split <;> simp_all <;> omega
      · rw [m4]
        exact Ct.st hM (((c1.comp q1.1.ss).comp q2.1.ss).comp q3.1.ss) (((c2.trans q1.1).trans q2.1).trans q3.1) p3 m3) k
end
end Z
end

section
/-! T18: _law_take. -/
namespace Z
open PySem PySem.Spec L2 PySem.W ZL
variable {g : Gc}
section
variable {l : Lc} {M : Md} {G : List Slot} {pos p q : Pos} {a b e : Expr} {ns : List Int} {k : Nat}
theorem dp_ints {K : PySem.W.Frag} {H : Hp} : ∀ ns : List Int, DpAll K H (ns.map V.int) (ns.map PyData.int)
  | [] => .nil
  | n :: ns => .cons (.int n) (dp_ints ns)
theorem xt_neScr (ha : XE g l M G a (tScr g.K ns)) : XT g l M G (.Compare a [.NotEq] [.List [] q] pos) (fun y => y = !decide (ns = [])) :=
  xt_cmp (t := tScr g.K ns) (u := tLs []) (f := rNeD g.K) (fun X A => op_neA A) (fun S H x y Q e ⟨c, h1, h2⟩ hy k => by
    subst h1
    refine ⟨.list (ns.map PyData.int), .list (([] : List Int).map PyData.int), .lst (sqL_ex h2 e) (dp_ints ns), isD_ls (ts := []) (ds := []) trivial g.K S H y e hy, (dt_lst fun d hd => ?_).shaped (n := 1) (by decide), (dt_lst (n := 0) fun d hd => by cases hd).shaped (by decide), k _ S H (Gr.refl e) ⟨_, ?_, rfl⟩⟩
    · obtain ⟨i, _, rfl⟩ := List.mem_map.mp hd
      exact dt_int
    · rw [eqv_lst (fun a b => by show (a == b) = decide (a = b); rfl)]) ha (x_lst xa_nil) rfl
theorem x_lenScr (h : XE g l M G a (tScr g.K ns)) (hm : g.mg "len" = none) (hg : l.sc.names.lookup ("len" : Str) = some .globalImplicit := by rfl) (hs : ∀ env, starEach [a] env = (false, eval a env) :: starEach [] env := by intro _; rfl) (hpl : ∀ env, (backTo pos (starEach [] env)).any (·.1) = false := by intro _; rfl) : XE g l M G (.Call (.Name "len" p) [a] [] pos) (tIn (ns.length : Int)) :=
  x_callB (f := fun xs H Q => ∃ p ys, xs = [.ref p] ∧ (SqL g.K H p ys ∨ SqT g.K H p ys) ∧ Q (.int ys.length) H) (fun X A => by rw [← A.K]; exact call_len_seq) (fun S H vs Q e k q => by
    obtain ⟨v, rfl, d, rfl, h2⟩ := k.one
    exact ⟨d, _, rfl, .inl (sqL_ex h2 e), by rw [List.length_map]; exact q _ S H (Gr.refl e) rfl⟩) hm boot_len (xa_1 h hs) hg (by decide) (by decide) hs hpl
theorem x_ixScr (ha : XE g l M G a (tScr g.K ns)) (hb : XE g l M G b (tIi fun i => 0 ≤ i ∧ i < (ns.length : Int))) (hs : PlainIx b := by exact fun _ _ => rfl) : XE g l M G (.Subscript a b pos) (tIi anyI) := x_ixP (t := tScr g.K ns) (u := tIi fun i => 0 ≤ i ∧ i < (ns.length : Int)) (fun X A => ixA_lst A) (fun S H x y Q e ⟨c, h1, h2⟩ ⟨i, ⟨h3, h4⟩, hy⟩ k => by
  cases hy
  subst h1
  obtain ⟨n, rfl⟩ : ∃ n : Nat, i = (n : Int) := ⟨i.toNat, by omega⟩
  have hn : n < ns.length := by omega
  exact ⟨c, _, n, .int ns[n], rfl, rfl, sqL_ex h2 e, atI_nat (by rw [List.getElem?_map, List.getElem?_eq_getElem hn]; rfl), k _ S H (Gr.refl e) ⟨_, trivial, rfl⟩⟩) ha hb hs
end
/-- a number below n -/
def tTk (n : Nat) : Ty := tEx (fun k : Nat => k < n) tNt
theorem sub_tk {n : Nat} : Sub (tIi fun i => 0 ≤ i ∧ i < (n : Int)) (tTk n) := fun S v ⟨i, ⟨h1, h2⟩, e⟩ => ⟨i.toNat, by omega, by
  have : ((i.toNat : Nat) : Int) = i := by omega
  show v = .int _
  rw [this]
  exact e⟩
structure Stq where
  a : Addr
  sc : Addr
  ns : List Int
abbrev Stq.ty (g : Gc) (q : Stq) : Ty := tSta g.K q.a q.sc q.ns
abbrev Tkq := { q : Stq × Nat // 0 < q.2 ∧ q.2 < 1073741824 }
abbrev FnTake (g : Gc) := Fn g "_law_take" 1 (Spc (fun (q : Tkq) M => IsSt q.1.1.a q.1.1.sc M) (fun q => [q.1.1.ty g, tNt q.1.2]) (fun q => tTk q.1.2))
theorem IsSt.dom {a sc : Addr} {M : Md} {d : Addr → Prop} (h : IsSt a sc M) : IsSt a sc { M with dom := d } := ⟨h.ch, h.get, h.put⟩
theorem ok_take (b : Gb g) (F : Df g "_law_take" (top 58)) : FnTake g := by
  refine fn_mk (N := ["_law_state", "_law_below", "_law_found", "_law_cell"]) (ps := ["_law_state", "_law_below"]) F ⟨rfl, rfl, rfl, by decide +kernel, rfl, by decide +kernel, by decide +kernel⟩ (fun _ => rfl) (by decide) (hb2 fun _ _ _ _ _ _ _ _ => rfl) (fun _ _ _ h => h.dom) fun q M S_0 H_0 hM => ?_
  obtain ⟨⟨⟨a, sc, ns⟩, n⟩, h0, h1⟩ := q
  have h0 : 0 < n := h0
  have h1 : n < 1073741824 := h1
  have hM : IsSt a sc M := hM
  have cd : ∀ i j : Int, j = (n : Int) → CDiv i j := fun i j e => ⟨by omega, by omega⟩
  have md : ∀ i j : Int, j = (n : Int) → 0 < j ∧ (0 ≤ i % j ∧ i % j < (n : Int)) := fun i j e => by
    have p : 0 < j := by omega
    have m1 := Int.emod_nonneg i (show j ≠ 0 by omega)
    have m2 := Int.emod_lt_of_pos i p
    exact ⟨p, m1, by omega⟩
  refine xb_when (xt_gtX (x_st2 hM (x_var 0)) (x_intX (p := anyI) trivial)) (fun _ => ?_) fun _ => ?_
  · refine xb_set 2 (t := tTk n) (x_sub (x_modX (r := fun i => 0 ≤ i ∧ i < (n : Int)) (x_st2 hM (x_var 0)) (x_sub (x_var 1) (sub_in (p := fun j => j = (n : Int)) rfl)) fun i j _ e => md i j e) sub_tk) ?_
    refine xb_st 2 hM (x_var 0) x_int (x_divX (r := anyI) (x_st2 hM (x_var 0)) (x_sub (x_var 1) (sub_in (p := fun j => j = (n : Int)) rfl)) fun i j _ e => ⟨cd i j e, trivial⟩) (fun S v c gr mx ⟨i, _, hv⟩ hm => ⟨by decide, c, i, mx, hm, by cases hv; rfl⟩) ?_
    exact xb_rt' (x_var 2)
  refine xb_set 3 (t := tIi anyI) (x_st1 hM (x_var 0)) ?_
  refine xb_if (Ct M S_0 S_0 H_0 [.ty (tSta g.K a sc ns), .ty (tNt n), .unk, .ty (tIi anyI)]) (xt_neScr (x_st0 hM (x_var 0))) (fun hne => ?_) (fun _ => xb_nil fun _ _ h => h) ?_
  · have hl : 0 < ns.length := by
      cases ns with
      | nil => cases hne
      | cons _ _ => exact Nat.succ_pos _
    exact xb_set 3 (x_ixScr (x_st0 hM (x_var 0)) (x_modX (x_st1 hM (x_var 0)) (x_sub (x_lenScr (x_st0 hM (x_var 0)) b.len) (sub_in (p := fun j => j = (ns.length : Int)) rfl)) fun i j _ e => by
      have p : 0 < j := by omega
      have m1 := Int.emod_nonneg i (show j ≠ 0 by omega)
      have m2 := Int.emod_lt_of_pos i p
      exact ⟨p, m1, by show i % j < (ns.length : Int); omega⟩)) (xb_nil fun _ _ h => h)
  refine xb_st 1 hM (x_var 0) x_int (x_addX (r := anyI) (x_st1 hM (x_var 0)) (x_intX (p := anyI) trivial) fun _ _ _ _ => trivial) (fun S v c gr mx ⟨i, _, hv⟩ hm => ⟨by decide, i, gr, mx, hm, by cases hv; rfl⟩) ?_
  refine xb_when (xw_t (xw_and (xt_geX (x_var 3) (x_sub (x_pow x_int x_int ⟨by decide, by decide, by decide⟩) (sub_in (p := anyI) trivial))) fun _ => xw_and1 (xt_leX (x_st1 hM (x_var 0)) (x_sub (x_lenScr (x_st0 hM (x_var 0)) b.len) (sub_in (p := anyI) trivial))))) (fun _ => ?_) fun _ => ?_
  · refine xb_st 2 hM (x_var 0) x_int (x_divX (r := anyI) (x_var 3) (x_sub (x_var 1) (sub_in (p := fun j => j = (n : Int)) rfl)) fun i j _ e => ⟨cd i j e, trivial⟩) (fun S v c gr mx ⟨i, _, hv⟩ hm => ⟨by decide, c, i, mx, hm, by cases hv; rfl⟩) ?_
    exact xb_rt' (x_sub (x_modX (r := fun i => 0 ≤ i ∧ i < (n : Int)) (x_var 3) (x_sub (x_var 1) (sub_in (p := fun j => j = (n : Int)) rfl)) fun i j _ e => md i j e) sub_tk)
  have pm : ∀ i j : Int, j = PM → 0 < j ∧ mxI (i % j) := fun i j e => by
    have e2 : PM = 2305843009213693951 := rfl
    have p : 0 < j := by omega
    have m1 := Int.emod_nonneg i (show j ≠ 0 by omega)
    have m2 := Int.emod_lt_of_pos i p
    exact ⟨p, m1, by omega⟩
  refine xb_set 3 (t := tIi mxI) (x_modX (x_var 3) (x_intX (p := fun j => j = PM) rfl) fun i j _ e => pm i j e) ?_
  refine xb_st 3 hM (x_var 0) x_int (x_modX (r := mxI) (x_addX (r := anyI) (x_addX (r := anyI) (x_mulX (r := anyI) (x_st3 hM (x_var 0)) (x_intX (p := fun j => j = 48271) rfl) fun i j _ e => ⟨.inr (by omega), trivial⟩) (x_mulX (r := anyI) (x_var 3) (x_intX (p := fun j => j = 69621) rfl) fun i j _ e => ⟨.inr (by omega), trivial⟩) fun _ _ _ _ => trivial) (x_st1 hM (x_var 0)) fun _ _ _ _ => trivial) (x_intX (p := fun j => j = PM) rfl) fun i j _ e => pm i j e) (fun S v c gr mx ⟨i, hi, hv⟩ hm => ⟨by decide, c, gr, i, hi, by cases hv; rfl⟩) ?_
  refine xb_rt' (x_sub (x_modX (r := fun i => 0 ≤ i ∧ i < (n : Int)) (x_divX (r := anyI) (x_modX (r := anyI) (x_mulX (r := anyI) (x_st3 hM (x_var 0)) (x_st3 hM (x_var 0)) fun i j h _ => ⟨.inl ?_, trivial⟩) (x_intX (p := fun j => j = 2147483629) rfl) fun i j _ e => ⟨by omega, trivial⟩) (x_intX (p := fun j => j = 8) rfl) fun i j _ e => ⟨⟨by omega, by omega⟩, trivial⟩) (x_sub (x_var 1) (sub_in (p := fun j => j = (n : Int)) rfl)) fun i j _ e => md i j e) sub_tk)
  have e2 : PM = 2305843009213693951 := rfl
  obtain ⟨x1, x2⟩ := h
  rw [e2] at x2
  constructor <;> omega
end Z
end

section
/-! T19: loops and comprehensions over iterables of some kind. -/
namespace Z
open PySem PySem.Spec L2 PySem.W ZL
section
variable {κ : Type} {g : Gc} {l : Lc} {M : Md} {G : List Slot} {pos : Pos} {tg iter elt : Expr} {ifs : List Expr} {scope : Scope} {own : List (Str × Nat)} {ts : List Ty} {q : κ → Prop} {f : κ → List Ty}
def tIX (M : Md) (G : List Slot) (q : κ → Prop) (f : κ → List Ty) : TI := fun σ H R => ∃ S, Pre M G σ S H ∧ ∀ J S' H' j, Post M S H S' H' → q j → Walk J S' (f j) → R J H'
def XIx (g : Gc) (l : Lc) (M : Md) (G : List Slot) (tg iter : Expr) (q : κ → Prop) (f : κ → List Ty) : Prop := ∀ X, At g l X → PI X tg iter (tIX M G q f)
theorem lc_readX {vs : List Nat} {G1 : Nat → List Slot} {B : Nat → Bool → Prop} {u : Nat → Ty} {gg : TG} {tt : TT} {te : TE} (hG : ∀ v σ H Q, uG M G ts vs G1 v σ H Q → gg v σ H Q) (hT : ∀ σ H Q, uT M ts G1 B σ H Q → tt σ H Q) (hE : ∀ σ H Q, uE M ts G1 B u σ H Q → te σ H Q)
    {σ : L2.St} {H : Hp} {Q : VK} {S : Hp} (hz : ts.length ≤ 100000) (pr : Pre M G σ S H) (q : ∀ v S' H', Post M S H S' H' → (tEx (Picks ts.length B) fun f => tLs (picked ts.length f u)).is S' v → Q v H') {J : It} {S1 H1 : Hp} (q1 : Post M S H S1 H1) (wk : Walk J S1 ts) {D : Addr} (hD : H1 D = none) :
    ∃ W : Nat → Nat → Hp → Prop, (∃ m, W 0 m (upd H1 D (.lst []))) ∧ ∀ i m H, W i m H →
  (J.stop i H ∧ Q (.ref D) H) ∨ (J.go i H ∧ ∃ Nx : Hp → Prop, (∀ H', Nx H' → ∃ m', m' < m ∧ W (i + 1) m' H') ∧ ∀ x H', J.yld i H x H' → gg x (wipe σ vs) H' fun σ2 H2 => wipe σ2 vs = wipe σ vs ∧ tt σ2 H2 fun b H3 =>
    if b = true then te σ2 H3 fun y H4 => ∃ acc, H4 D = some (.lst acc) ∧ acc.length < sizeLine ∧ Nx (upd H4 D (.lst (acc ++ [y]))) else Nx H3) := by
  have p1 : Pre M G σ S1 H1 := pr.next q1
  have hDS : S1 D = none := p1.1.none hD
  have hch : ¬ M.ch D := M.fresh p1.2.1 hD
  have hD0 : H D = none := by
    cases e : H D with
    | none => rfl
    | some o => obtain ⟨o', e', _⟩ := q1.1.al D o e; rw [hD] at e'; cases e'
  refine ⟨fun i m H' => m = ts.length - i ∧ i ≤ ts.length ∧ ∃ S' f acc, Gr M.ch S1 H1 S' H' ∧ M.inv S' H' ∧ S' D = none ∧ H' D = some (.lst acc) ∧ Picks i B f ∧ Tys S' (picked i f u) acc, ⟨ts.length, rfl, Nat.zero_le _, S1, fun _ => true, [], ?_, ?_, hDS, upd_same, fun i hi => absurd hi (Nat.not_lt_zero i), .nil⟩, ?_⟩
  · exact (Gr.lay p1.1 hD).weak
  · exact M.stabW hch (fun q => by rw [hD]; exact fun z => nomatch z) p1.2.1
  rintro i m H2 ⟨rfl, hil, S2, f, acc, g2, i2, s2, h2, pk, ty⟩
  have p2 : Pre M G σ S2 H2 := ⟨g2.sh, i2, p1.2.2.grow g2⟩
  by_cases hlt : i < ts.length
  · refine .inr ?_
    have hit : ts[i]? = some ts[i] := List.getElem?_eq_getElem hlt
    obtain ⟨go, yl⟩ := wk.go S2 H2 i _ g2.ss g2.sh hit
    refine ⟨go, fun H' => i + 1 ≤ ts.length ∧ ∃ S' f acc, Gr M.ch S1 H1 S' H' ∧ M.inv S' H' ∧ S' D = none ∧ H' D = some (.lst acc) ∧ Picks (i + 1) B f ∧ Tys S' (picked (i + 1) f u) acc, fun H' ⟨k1, k2⟩ => ⟨ts.length - (i + 1), by omega, rfl, k1, k2⟩, fun x H3 hy => ?_⟩
    obtain ⟨S3, g3, hx⟩ := yl x H3 hy
    have q3 : Post M S2 H2 S3 H3 := Post.of i2 g3
    have p3 := p2.next q3
    refine hG _ _ _ _ ⟨i, _, hit, S3, ⟨p3.1, p3.2.1, p3.2.2.wiped _⟩, hx, fun σ4 p4 n4 l4 => ⟨?_, hT _ _ _ ⟨i, _, hit, S3, p4, fun b S5 H5 q5 hb => ?_⟩⟩⟩
    · refine wipe_eq (fun j hj => ?_) (l4.trans (wipe_length ..))
      rw [n4 j hj, wipe_out hj]
    · have g5 : Gr M.ch S1 H1 S5 H5 := g2.trans (q3.1.trans q5.1)
      have s5 : S5 D = none := by
        have e3 := (g3.hh D _ h2 id)
        rw [q5.1.old D _ e3 trivial, g3.old D _ h2 trivial, s2]
      have h5 : H5 D = some (.lst acc) := q5.1.hh D _ (g3.hh D _ h2 id) hch
      have pk' : Picks (i + 1) B (fun j => if j = i then b else f j) := fun j hj => by
        show B j (if j = i then b else f j)
        by_cases e : j = i
        · rw [if_pos e, e]; exact hb
        · rw [if_neg e]; exact pk j (by omega)
      have ec : picked i (fun j => if j = i then b else f j) u = picked i f u := picked_congr fun j hj => if_neg (by omega)
      cases b with
      | false =>
        refine iteF ⟨by omega, S5, _, acc, g5, q5.2, s5, h5, pk', ?_⟩
        rw [picked_no (by show (if i = i then false else f i) = false; rw [if_pos rfl]), ec]
        exact ty.mono (g3.ss.comp q5.1.ss)
      | true =>
        refine iteT (hE _ _ _ ⟨i, _, hit, hb, S5, p4.next q5, fun y S6 H6 q6 hy => ⟨acc, q6.1.hh D _ h5 hch, ?_, ?_⟩⟩)
        · have k1 := ty.len
          have k2 := picked_len (n := i) (f := f) (u := u)
          have k3 : (100000 : Nat) < sizeLine := by decide
          omega
        · refine ⟨by omega, S6, _, acc ++ [y], (g5.trans q6.1).write hD ?_, M.stabW hch (fun q => by rw [q6.1.hh D _ h5 hch]; unfold LamX.CodeO; exact fun z => nomatch z) q6.2, ?_, upd_same, pk', ?_⟩
          · rw [q6.1.old D _ h5 trivial, s5]
          · rw [q6.1.old D _ h5 trivial, s5]
          · rw [picked_yes (by show (if i = i then true else f i) = true; rw [if_pos rfl]), ec]
            exact (ty.mono ((g3.ss.comp q5.1.ss).comp q6.1.ss)).snoc hy
  · have e : i = ts.length := by omega
    subst e
    refine .inl ⟨wk.stop S2 H2 g2.ss g2.sh, ?_⟩
    exact q _ _ H2 ⟨(q1.1.trans g2).freeze hD0 s2 h2, M.stabF s2 hch i2⟩ ⟨f, pk, D, acc, rfl, upd_same, ty.mono fun a o e => by
      rw [upd_ne (ne_of_none e s2)]
      exact e⟩
/-- [elt for tg in iter if ..], iter of some kind -/
theorem x_lcX {vs : List Nat} {G1 : κ → Nat → List Slot} {B : κ → Nat → Bool → Prop} {u : κ → Nat → Ty} (hvs : vs = own.map (·.2)) (hi : XIx g l M G tg iter q f) (ok : BlkOk l.N l.sc scope own) (hz : ∀ j, q j → (f j).length ≤ 100000)
    (hg : ∀ j i t, q j → (f j)[i]? = some t → XG g (l.blk scope) M (wipeG G vs) vs tg t (G1 j i)) (ht : ∀ j i t, q j → (f j)[i]? = some t → XTs g (l.blk scope) M (G1 j i) ifs (B j i)) (he : ∀ j i t, q j → (f j)[i]? = some t → B j i true → XE g (l.blk scope) M (G1 j i) elt (u j i))
    (hs : ∀ env x, foldedSetIterable iter env x = pure x := by intro _ _; rfl) : XE g l M G (.ListComp elt [⟨tg, iter, ifs, 0⟩] scope pos) (tEx (fun z : κ × (Nat → Bool) => q z.1 ∧ Picks (f z.1).length (B z.1) z.2) fun z => tLs (picked (f z.1).length z.2 (u z.1))) := fun X A => by
  subst hvs
  refine conv (pe_lc (own := own) (g := fun v σ H Q => ∃ j, q j ∧ uG M G (f j) (own.map (·.2)) (G1 j) v σ H Q) (tt := fun σ H Q => ∃ j, q j ∧ uT M (f j) (G1 j) (B j) σ H Q) (te := fun σ H Q => ∃ j, q j ∧ uE M (f j) (G1 j) (B j) (u j) σ H Q) A.calm (by rw [A.N]; exact A.nd) (hi X A) (by rw [A.N, A.sc]; exact ok)
    (fun s H C cl fp => ⟨fun pins s σ H v w Q I r ⟨j, hj, i, t, hit, h⟩ => (hg j i t hj hit _ (A.blk _ _ _ _ _ _ ok.kind)).run pins s σ H v w Q I r h⟩)
    (fun s H C cl fp => ⟨fun pins s σ H Q I ⟨j, hj, i, t, hit, h⟩ => (ht j i t hj hit _ (A.blk _ _ _ _ _ _ ok.kind)).run pins s σ H Q I h⟩)
    (fun s H C cl fp => ⟨fun pins s σ H Q I ⟨j, hj, i, t, hit, hb, h⟩ => (he j i t hj hit hb _ (A.blk _ _ _ _ _ _ ok.kind)).run pins s σ H Q I h⟩) (hs _)) fun σ H Q h => ?_
  obtain ⟨S, pr, k⟩ := h
  refine ⟨S, pr, fun J S1 H1 j q1 hj wk D hD => ?_⟩
  exact lc_readX (gg := fun v σ H Q => ∃ j, q j ∧ uG M G (f j) (own.map (·.2)) (G1 j) v σ H Q) (tt := fun σ H Q => ∃ j, q j ∧ uT M (f j) (G1 j) (B j) σ H Q) (te := fun σ H Q => ∃ j, q j ∧ uE M (f j) (G1 j) (B j) (u j) σ H Q) (vs := own.map (·.2)) (B := B j) (u := u j) (G1 := G1 j) (fun v σ H Q h => ⟨j, hj, h⟩) (fun σ H Q h => ⟨j, hj, h⟩) (fun σ H Q h => ⟨j, hj, h⟩) (hz j hj) pr (fun v S' H' a ⟨ff, b1, b2⟩ => k v S' H' a ⟨(j, ff), ⟨hj, b1⟩, b2⟩) q1 wk hD
end

section
variable {κ ζ : Type} {g : Gc} {l : Lc} {M : Md} {B S_0 H_0 : Hp} {G : List Slot} {pos : Pos} {tg iter : Expr} {rest body : List Stmt} {q : κ → Prop} {f : κ → List Ty} {D : Ends}
theorem xs_forX (Iv : κ → Nat → ζ → Prop) (Gi : κ → Nat → ζ → List Slot) {G1 : κ → Nat → ζ → List Slot} {vs : List Nat} (hi : XIx g l M G tg iter q f) (z0 : κ → ζ) (h0 : ∀ j, q j → Iv j 0 (z0 j)) (e0 : ∀ j, q j → Gi j 0 (z0 j) = G)
    (hg : ∀ j i z t, q j → (f j)[i]? = some t → Iv j i z → XG g l M (Gi j i z) vs tg t (G1 j i z))
    (hb : ∀ j i z t B', q j → (f j)[i]? = some t → Iv j i z → Ex B B' → XB g l (Ct M B' S_0 H_0 (G1 j i z)) body { nx := fun σ H => ∃ z', Iv j (i + 1) z' ∧ Ct M B' S_0 H_0 (Gi j (i + 1) z') σ H, ct := fun σ H => ∃ z', Iv j (i + 1) z' ∧ Ct M B' S_0 H_0 (Gi j (i + 1) z') σ H, bk := D.nx, rt := D.rt })
    (hd : ∀ j z σ H, q j → Iv j (f j).length z → Ct M B S_0 H_0 (Gi j (f j).length z) σ H → D.nx σ H) (hs : ∀ env x, foldedSetIterable iter env x = pure x := by intro _ _; rfl) : XS g l (Ct M B S_0 H_0 G) (.For tg iter body [] pos) D := fun X A => by
  refine convS (ps_for (wi := tIX M G q f) (g := fun v σ H Q => ∃ j i z t, q j ∧ (f j)[i]? = some t ∧ Iv j i z ∧ tG M (Gi j i z) vs t (G1 j i z) v σ H fun σ' H' => Q σ' H')
    (tb := fun D' σ H => ∃ j i z t B', q j ∧ (f j)[i]? = some t ∧ Iv j i z ∧ Ex B B' ∧ tS (Ct M B' S_0 H_0 (G1 j i z)) { nx := fun σ H => ∃ z', Iv j (i + 1) z' ∧ Ct M B' S_0 H_0 (Gi j (i + 1) z') σ H, ct := fun σ H => ∃ z', Iv j (i + 1) z' ∧ Ct M B' S_0 H_0 (Gi j (i + 1) z') σ H, bk := D.nx, rt := D.rt } D' σ H)
    (by rw [A.nox]; exact PassesOwn.never) A.calm (hi X A) ⟨fun pins s σ H v w Q I r ⟨j, i, z, t, hj, hit, iv, h⟩ => (hg j i z t hj hit iv X A).run pins s σ H v w Q I r h⟩ ⟨fun pins s σ H D' I ⟨j, i, z, t, B', hj, hit, iv, eb, h⟩ => (hb j i z t B' hj hit iv eb X A).run pins s σ H D' I h⟩ (hs _)) fun D' σ H ⟨ct, le⟩ => ?_
  obtain ⟨S, c1, c2, pr⟩ := ct.get
  refine ⟨S, pr, fun J S1 H1 j q1 hj wk => ?_⟩
  have c3 := c2.trans q1.1
  have p1 := pr.next q1
  refine ⟨fun i m σ H => m = (f j).length - i ∧ i ≤ (f j).length ∧ ∃ z, Iv j i z ∧ Ct M S1 S_0 H_0 (Gi j i z) σ H, ⟨(f j).length, rfl, Nat.zero_le _, z0 j, h0 j hj, .of Ex.rfl' c3 (by rw [e0 j hj]; exact p1)⟩, ?_⟩
  rintro i m σ2 H2 ⟨rfl, hil, z, iv, ct2⟩
  obtain ⟨S2, d1, d2, p2⟩ := ct2.get
  by_cases hlt : i < (f j).length
  · have hit : (f j)[i]? = some (f j)[i] := List.getElem?_eq_getElem hlt
    obtain ⟨go, yl⟩ := wk.go S2 H2 i _ d1 d2.gr.sh hit
    refine .inr ⟨go, fun σ H => i + 1 ≤ (f j).length ∧ ∃ z, Iv j (i + 1) z ∧ Ct M S1 S_0 H_0 (Gi j (i + 1) z) σ H, fun σ H ⟨k1, k2⟩ => ⟨(f j).length - (i + 1), by omega, rfl, k1, k2⟩, fun x H3 hy => ?_⟩
    obtain ⟨S3, g3, hx⟩ := yl x H3 hy
    have q3 : Post M S2 H2 S3 H3 := Post.of p2.2.1 g3
    refine ⟨j, i, z, _, hj, hit, iv, S3, p2.next q3, hx, fun σ4 p4 n4 l4 => ⟨j, i, z, _, S1, hj, hit, iv, c1.comp q1.1.ss, .of (d1.comp g3.ss) (d2.trans q3.1) p4, ?_, le.rt, le.nx, ?_⟩⟩
    · rintro σ H ⟨z', k1, k2⟩
      exact ⟨by omega, z', k1, k2⟩
    · rintro σ H ⟨z', k1, k2⟩
      exact ⟨by omega, z', k1, k2⟩
  · have e : i = (f j).length := by omega
    subst e
    exact .inl ⟨wk.stop S2 H2 d1 d2.gr.sh, le.nx _ _ (hd j z σ2 H2 hj iv (.of ((c1.comp q1.1.ss).comp d1) d2 p2))⟩
theorem xb_forX (Iv : κ → Nat → ζ → Prop) (Gi : κ → Nat → ζ → List Slot) {G1 : κ → Nat → ζ → List Slot} {vs : List Nat} (hi : XIx g l M G tg iter q f) (z0 : κ → ζ) (h0 : ∀ j, q j → Iv j 0 (z0 j)) (e0 : ∀ j, q j → Gi j 0 (z0 j) = G)
    (hg : ∀ j i z t, q j → (f j)[i]? = some t → Iv j i z → XG g l M (Gi j i z) vs tg t (G1 j i z))
    (hb : ∀ j i z t B', q j → (f j)[i]? = some t → Iv j i z → Ex B B' → XB g l (Ct M B' S_0 H_0 (G1 j i z)) body { nx := fun σ H => ∃ z', Iv j (i + 1) z' ∧ Ct M B' S_0 H_0 (Gi j (i + 1) z') σ H, ct := fun σ H => ∃ z', Iv j (i + 1) z' ∧ Ct M B' S_0 H_0 (Gi j (i + 1) z') σ H, bk := fun σ H => ∃ j z, (q j ∧ Iv j (f j).length z) ∧ Ct M B S_0 H_0 (Gi j (f j).length z) σ H, rt := D.rt })
    (k : ∀ j z, q j → Iv j (f j).length z → XB g l (Ct M B S_0 H_0 (Gi j (f j).length z)) rest D) (hs : ∀ env x, foldedSetIterable iter env x = pure x := by intro _ _; rfl) : XB g l (Ct M B S_0 H_0 G) (.For tg iter body [] pos :: rest) D :=
  xb_cons (fun σ H => ∃ j z, (q j ∧ Iv j (f j).length z) ∧ Ct M B S_0 H_0 (Gi j (f j).length z) σ H) (xs_forX Iv Gi hi z0 h0 e0 hg hb (fun j z σ H hj h1 h2 => ⟨j, z, ⟨hj, h1⟩, h2⟩) hs)
    (xb_pre (pre := fun σ H => ∃ jz : { jz : κ × ζ // q jz.1 ∧ Iv jz.1 (f jz.1).length jz.2 }, Ct M B S_0 H_0 (Gi jz.1.1 (f jz.1.1).length jz.1.2) σ H) (xb_ex fun jz => k jz.1.1 jz.1.2 jz.2.1 jz.2.2) fun σ H ⟨j, z, h1, h2⟩ => ⟨⟨(j, z), h1⟩, h2⟩)
end
section
variable {g : Gc} {l : Lc} {M : Md} {G : List Slot} {pos p : Pos} {tg a b : Expr} {κ : Type} {q : κ → Prop} {f : κ → List Ty}
theorem xix_of {ts : List Ty} {iter : Expr} (h : XI g l M G tg iter ts) : XIx g l M G tg iter (fun _ : Unit => True) (fun _ => ts) := fun X A => convI (h X A) fun σ H R ⟨S, pr, k⟩ => ⟨S, pr, fun J S' H' a w => k J S' H' () a trivial w⟩
theorem xix_list {e : Expr} (h : XE g l M G e (tEx q fun j => tLs (f j))) : XIx g l M G tg e q f := fun X A => convI (pi_list (h X A)) fun σ H R ⟨S, pr, k⟩ => tE.step pr fun v S1 H1 q1 p1 ⟨j, hj, a, vs, e1, h1, h2⟩ =>
  ⟨a, e1, ⟨vs, SqL.of (p1.1 _ _ h1)⟩, k _ S1 H1 j q1 hj (walk_list h1 h2)⟩
theorem xix_tup {e : Expr} (h : XE g l M G e (tEx q fun j => tTu (f j))) : XIx g l M G tg e q f := fun X A => convI (pi_tup (h X A)) fun σ H R ⟨S, pr, k⟩ => tE.step pr fun v S1 H1 q1 p1 ⟨j, hj, a, vs, e1, h1, h2⟩ =>
  ⟨a, e1, ⟨vs, SqT.of (p1.1 _ _ h1)⟩, k _ S1 H1 j q1 hj (walk_tup h1 h2)⟩
end
end Z
end

section
/-! T20: the law's words and values. -/
namespace Z
open PySem PySem.Spec L2 PySem.W ZL
variable {g : Gc}
theorem join_nil (ys : List Str) : (Txt.join Str.empty ys).cps.toList = ys.flatMap fun y => y.cps.toList := by
  have key : ∀ (ys : List Str) (acc : Array Nat), (ys.foldl (fun acc p => acc ++ Str.empty.cps ++ p.cps) acc).toList = acc.toList ++ ys.flatMap fun y => y.cps.toList := by
    intro ys
    induction ys with
    | nil => intro acc; simp
    | cons y ys ih =>
      intro acc
      rw [List.foldl_cons, ih]
      simp [Str.empty, List.append_assoc]
  cases ys with
  | nil => rfl
  | cons y ys =>
    show (ys.foldl (fun acc p => acc ++ Str.empty.cps ++ p.cps) y.cps).toList = _
    rw [key]
    rfl
section
variable {l : Lc} {M : Md} {G : List Slot} {pos p : Pos} {tg a b e : Expr} {q : Int → Prop}
theorem xix_rng (h : XE g l M G a (tIi q)) (hq : ∀ i, q i → 0 ≤ i ∧ i < 2 ^ 62) (hm : g.mg "range" = none) (hg : l.sc.names.lookup ("range" : Str) = some .globalImplicit := by rfl) (hs : ∀ env, starEach [a] env = [(false, eval a env)] := by intro _; rfl) :
    XIx g l M G tg (.Call (.Name "range" p) [a] [] pos) (fun n : Nat => q (n : Int)) (fun n => rngT 0 n) := fun X A => convI (pi_range1 (A.gl hg) (by rw [A.mg]; exact hm) (xa_cons h xa_nil hs X A) (hs _)) fun σ H R ⟨S, pr, k⟩ => tA.step pr fun vs S1 H1 q1 p1 k1 => by
  obtain ⟨v, rfl, i, hi, e⟩ := k1.one
  cases e
  obtain ⟨h1, h2⟩ := hq i hi
  have e : ((i.toNat : Nat) : Int) = i := by omega
  exact ⟨i, rfl, by omega, h2, k _ S1 H1 i.toNat q1 (by show q ((i.toNat : Nat) : Int); rw [e]; exact hi) walk_rng⟩
theorem xix_rng2 {r : Int → Prop} (h : XE g l M G a (tIi q)) (h' : XE g l M G b (tIi r)) (hq : ∀ i, q i → 0 ≤ i ∧ i < 2 ^ 61) (hr : ∀ i, r i → 0 ≤ i ∧ i < 2 ^ 61) (hm : g.mg "range" = none) (hg : l.sc.names.lookup ("range" : Str) = some .globalImplicit := by rfl)
    (hs : ∀ env, starEach [a, b] env = [(false, eval a env), (false, eval b env)] := by intro _; rfl) (hs2 : ∀ env, starEach [b] env = [(false, eval b env)] := by intro _; rfl) :
    XIx g l M G tg (.Call (.Name "range" p) [a, b] [] pos) (fun z : Nat × Nat => q (z.1 : Int) ∧ r (z.2 : Int)) (fun z => rngT (z.1 : Int) (z.2 - z.1)) := fun X A => convI (pi_range2 (A.gl hg) (by rw [A.mg]; exact hm) (xa_cons h (xa_cons h' xa_nil hs2) (fun env => by rw [hs, hs2]) X A) (hs _) (hs2 _)) fun σ H R ⟨S, pr, k⟩ => tA.step pr fun vs S1 H1 q1 p1 k1 => by
  obtain ⟨v, w, rfl, ⟨i, hi, e⟩, ⟨j, hj, e'⟩⟩ := k1.two
  cases e
  cases e'
  obtain ⟨h1, h2⟩ := hq i hi
  obtain ⟨h3, h4⟩ := hr j hj
  have e : ((i.toNat : Nat) : Int) = i := by omega
  have e' : ((j.toNat : Nat) : Int) = j := by omega
  have en : (j - i).toNat = j.toNat - i.toNat := by omega
  refine ⟨i, j, rfl, ⟨by omega, by omega, by omega, by omega⟩, ?_⟩
  · have := k _ S1 H1 (i.toNat, j.toNat) q1 ⟨by rw [e]; exact hi, by rw [e']; exact hj⟩ (by show Walk _ _ (rngT ((i.toNat : Nat) : Int) (j.toNat - i.toNat)); exact walk_rng)
    rw [e, ← en] at this
    exact this
/-- a list of things of some kind -/
theorem tys_some {ι : Type} {p : ι → Prop} {T : ι → Ty} {S : Hp} : ∀ {ts : List Ty} {vs : List V}, (∀ t ∈ ts, Sub t (tEx p T)) → Tys S ts vs → ∃ ys : List ι, ys.length = ts.length ∧ (∀ y ∈ ys, p y) ∧ Tys S (ys.map T) vs
  | _, _, _, .nil => ⟨[], rfl, fun y hy => (by cases hy), .nil⟩
  | t :: ts, _, h, .cons a b => by
    obtain ⟨y, h1, h2⟩ := h t (List.mem_cons_self ..) _ _ a
    obtain ⟨ys, h3, h4, h5⟩ := tys_some (fun u hu => h u (List.mem_cons_of_mem _ hu)) b
    exact ⟨y :: ys, by simp [h3], fun z hz => by
      rcases List.mem_cons.mp hz with rfl | hz
      · exact h1
      · exact h4 z hz, .cons h2 h5⟩
def Some' {ι : Type} (n : Nat) (p : ι → Prop) (ys : List ι) : Prop := ys.length = n ∧ ∀ y ∈ ys, p y
theorem ls_some {ι : Type} {p : ι → Prop} {T : ι → Ty} {ts : List Ty} (h : ∀ t ∈ ts, Sub t (tEx p T)) : Sub (tLs ts) (tEx (Some' ts.length p) fun ys => tLs (ys.map T)) := fun S v ⟨a, vs, h1, h2, h3⟩ => by
  obtain ⟨ys, k1, k2, k3⟩ := tys_some h h3
  exact ⟨ys, ⟨k1, k2⟩, a, vs, h1, h2, k3⟩
theorem tu_some {ι : Type} {p : ι → Prop} {T : ι → Ty} {ts : List Ty} (h : ∀ t ∈ ts, Sub t (tEx p T)) : Sub (tTu ts) (tEx (Some' ts.length p) fun ys => tTu (ys.map T)) := fun S v ⟨a, vs, h1, h2, h3⟩ => by
  obtain ⟨ys, k1, k2, k3⟩ := tys_some h h3
  exact ⟨ys, ⟨k1, k2⟩, a, vs, h1, h2, k3⟩
/-- [elt for x in iter], every item of some kind -/
theorem x_lcS {κ ι : Type} {iter elt : Expr} {scope : Scope} {own : List (Str × Nat)} {q : κ → Prop} {f : κ → List Ty} {vs : List Nat} {G1 : κ → Nat → List Slot} {P : ι → Prop} {T : ι → Ty} (hvs : vs = own.map (·.2)) (hi : XIx g l M G tg iter q f) (ok : BlkOk l.N l.sc scope own) (hz : ∀ j, q j → (f j).length ≤ 100000)
    (hg : ∀ j i t, q j → (f j)[i]? = some t → XG g (l.blk scope) M (wipeG G vs) vs tg t (G1 j i)) (he : ∀ j i t, q j → (f j)[i]? = some t → XE g (l.blk scope) M (G1 j i) elt (tEx P T))
    (hs : ∀ env x, foldedSetIterable iter env x = pure x := by intro _ _; rfl) : XE g l M G (.ListComp elt [⟨tg, iter, [], 0⟩] scope pos) (tEx (fun ys : List ι => (∃ j, q j ∧ ys.length = (f j).length) ∧ ∀ y ∈ ys, P y) fun ys => tLs (ys.map T)) := by
  refine x_sub (x_lcX (B := fun _ _ b => b = true) (u := fun _ _ => tEx P T) hvs hi ok hz hg (fun j i t hj hit => xts_nil) (fun j i t hj hit _ => he j i t hj hit) hs) fun S v ⟨⟨j, ff⟩, ⟨h1, h2⟩, h3⟩ => ?_
  have ep : picked (f j).length ff (fun _ => tEx P T) = List.replicate (f j).length (tEx P T) := by
    rw [picked_congr (f' := fun _ => true) fun i hi => h2 i hi]
    unfold picked
    rw [List.filter_eq_self.mpr (fun _ _ => rfl), List.map_const', List.length_range]
  have h3 : (tLs (picked (f j).length ff (fun _ => tEx P T))).is S v := h3
  rw [ep] at h3
  obtain ⟨ys, ⟨k1, k2⟩, k3⟩ := ls_some (p := P) (T := T) (fun t ht => by rw [List.eq_of_mem_replicate ht]; exact Sub.rfl') S v h3
  rw [List.length_replicate] at k1
  exact ⟨ys, ⟨⟨j, h1, k1⟩, k2⟩, k3⟩
end
end Z
end

section
/-! T21: _law_word, _law_pool, _law_tables. -/
namespace Z
open PySem PySem.Spec L2 PySem.W ZL
variable {g : Gc}
theorem tk_sub {n : Nat} : Sub (tTk n) (tIi fun i => 0 ≤ i ∧ i < (n : Int)) := fun S v ⟨k, h, e⟩ => ⟨(k : Int), ⟨by omega, by omega⟩, e⟩
section
variable {l : Lc} {M : Md} {G : List Slot} {pos p p1 p2 : Pos} {tg a b e st : Expr} {q : Stq}
theorem x_take (F : FnTake g) (hM : IsSt q.a q.sc M) {n : Nat} (h : 0 < n ∧ n < 1073741824) (hs : XE g l M G st (q.ty g)) (he : XE g l M G e (tNt n)) (hj : 1 ≤ l.k := by decide) (hg : l.sc.names.lookup ("_law_take" : Str) = some .globalImplicit := by rfl)
    (s1 : ∀ env, starEach [st, e] env = (false, eval st env) :: starEach [e] env := by intro _; rfl) (s2 : ∀ env, starEach [e] env = (false, eval e env) :: starEach [] env := by intro _; rfl) (hpl : ∀ env, (backTo pos (starEach [e] env)).any (·.1) = false := by intro _; rfl) : XE g l M G (.Call (.Name "_law_take" p) [st, e] [] pos) (tTk n) :=
  x_callI F ⟨(q, n), h⟩ (xa_2 hs he s1 s2) hM hj hg (by decide) s1 hpl
theorem x_join {P : List Str → Prop} {k : Nat} (h : XE g l M G e (tEx P fun ys => tLs (ys.map tSt))) (hz : ∀ ys, P ys → (ys.map (·.length)).sum ≤ 16777216) (hs : ∀ env, starEach [e] env = [(false, eval e env)] := by intro _; rfl) (hbase : ∀ env, attributeBase (.Constant (.str "") k p) "join" env (eval (.Constant (.str "") k p) env) = eval (.Constant (.str "") k p) env := by intro _; rfl) (hline : (p1.endLine == pos.line) = true := by rfl) :
    XE g l M G (.Call (.Attribute (.Constant (.str "") k p) "join" p1) [e] [] pos) (tEx (fun s => ∃ ys, P ys ∧ s = Txt.join Str.empty ys) tSt) := fun X A =>
  conv (pe_join (x_str (l := l) (M := M) (G := G) X A) (h X A) (hs _) (hbase _) hline) fun σ H Q ⟨S, pr, k⟩ => tE.step pr fun v S1 H1 q1 p1 h1 => ⟨⟨_, h1⟩, tE.step p1 fun w S2 H2 q2 p2 ⟨ys, h2, d, ws, e1, h3, h4⟩ => by
    have ew : ws = ys.map V.str := by
      clear h3 h2 e1
      induction ys generalizing ws with
      | nil => cases h4; rfl
      | cons y ys ih =>
        cases h4 with
        | cons a t => rw [ih _ t, show _ = V.str y from a]; rfl
    subst ew
    exact ⟨Str.empty, d, ys, h1, by rw [e1], .inl (SqL.of (p2.1 _ _ h3)), by have := hz ys h2; show _ + ys.length * 0 ≤ _; omega, k _ S2 H2 (q1.trans q2) ⟨_, ⟨ys, h2, rfl⟩, rfl⟩⟩⟩
def alph : Str := "abcdefghijklmnopqrstuvwxyz"
theorem alph_get : ∀ i, i < 26 → ∃ c, alph.cps.toList[i]? = some c ∧ letter c = true := by
  have h : ∀ i : Fin 26, (match alph.cps.toList[i.1]? with | some c => letter c | none => false) = true := by decide +kernel
  intro i hi
  have := h ⟨i, hi⟩
  cases e : alph.cps.toList[i]? with
  | none => rw [show alph.cps.toList[(⟨i, hi⟩ : Fin 26).1]? = none from e] at this; cases this
  | some c => rw [show alph.cps.toList[(⟨i, hi⟩ : Fin 26).1]? = some c from e] at this; exact ⟨c, rfl, this⟩
theorem x_letter {k : Nat} (hb : XE g l M G b (tTk 26)) (hs : PlainIx b := by exact fun _ _ => rfl) : XE g l M G (.Subscript (.Constant (.str "abcdefghijklmnopqrstuvwxyz") k p) b pos) (tEx (fun c => letter c = true) fun c => tSt (sgn c)) :=
  x_ixP (t := tSt alph) (u := tTk 26) (f := rIxS) (fun X A => ix_str) (fun S H x y Q e hx ⟨i, hi, hy⟩ k => by
    cases hx
    cases hy
    obtain ⟨c, hc, hl⟩ := alph_get i hi
    exact ⟨alph, (i : Int), c, rfl, rfl, by decide +kernel, atI_nat hc, k _ S H (Gr.refl e) ⟨c, hl, rfl⟩⟩) x_str hb hs
end
theorem word_of {cs : List Nat} (h : ∀ c ∈ cs, letter c = true) (h1 : 1 ≤ cs.length) (h2 : cs.length ≤ 8) : wordOk (Txt.join Str.empty (cs.map sgn)) = true := by
  have e : (Txt.join Str.empty (cs.map sgn)).cps.toList = cs := by
    rw [join_nil, List.flatMap_map]
    show (cs.flatMap fun c => [c]) = cs
    rw [List.flatMap_singleton']
  have el : (Txt.join Str.empty (cs.map sgn)).cps.size = cs.length := by rw [← Array.length_toList, e]
  have ea : (Txt.join Str.empty (cs.map sgn)).cps.all letter = true := by
    rw [← Array.all_toList, e]
    exact List.all_eq_true.mpr h
  unfold wordOk
  rw [ea, el]
  simp only [Bool.and_eq_true, decide_eq_true_eq]
  exact ⟨⟨h1, h2⟩, trivial⟩
def tNmX : Ty := tEx (fun _ : Nm => True) tNm
abbrev FnLword (g : Gc) := Fn g "_law_word" 2 (Spc (fun (q : Stq) M => IsSt q.a q.sc M) (fun q => [q.ty g]) (fun _ => tNmX))
theorem ok_lword (b : Gb g) (F : Df g "_law_word" (top 59)) (F1 : FnTake g) : FnLword g := by
  refine fn_mk (N := ["_law_state", "_law_k"]) (ps := ["_law_state"]) F ⟨rfl, rfl, rfl, by decide +kernel, rfl, by decide +kernel, by decide +kernel⟩ (fun _ => rfl) (by decide) (hb1 fun _ _ _ _ _ _ _ => rfl) (fun _ _ _ h => h.dom) fun q M S_0 H_0 hM => ?_
  have hM : IsSt q.a q.sc M := hM
  refine xb_rt (x_join (P := fun ys => ∃ cs : List Nat, ys = cs.map sgn ∧ (1 ≤ cs.length ∧ cs.length ≤ 8) ∧ ∀ c ∈ cs, letter c = true) (x_sub (x_lcS (own := [("_law_k", 1)]) (vs := [1]) (P := fun c => letter c = true) (T := fun c => tSt (sgn c)) (G1 := fun n i => [.ty (q.ty g), .ty (tIn (0 + (i : Nat)))]) rfl
    (xix_rng (q := fun i => 1 ≤ i ∧ i ≤ 8) (x_addX (x_intX (p := fun i => i = 1) rfl) (x_sub (x_take F1 hM (n := 8) (by decide) (x_var 0) x_int) tk_sub) fun i j h1 h2 => ⟨by omega, by omega⟩) (fun i h => ⟨by omega, by omega⟩) b.range) (blkOk_by (by decide +kernel)) (fun n h => ?_) (fun n i t h hit => ?_) fun n i t h hit => x_letter (x_take F1 hM (n := 26) (by decide) (x_var 0) x_int)) ?_) ?_) ?_
  · unfold rngT
    rw [List.length_map, List.length_range]
    omega
  · unfold rngT at hit
    rw [List.getElem?_map] at hit
    obtain ⟨k, hk, rfl⟩ := Option.map_eq_some_iff.mp hit
    obtain ⟨hlt, e⟩ := List.getElem?_eq_some_iff.mp hk
    rw [List.getElem_range] at e
    subst e
    exact xg_name 1
  · intro S v ⟨cs, ⟨⟨n, hn, hl⟩, h2⟩, h3⟩
    unfold rngT at hl
    rw [List.length_map, List.length_range] at hl
    refine ⟨cs.map sgn, ⟨cs, rfl, ⟨by omega, by omega⟩, h2⟩, ?_⟩
    show (tLs ((cs.map sgn).map tSt)).is S v
    rw [List.map_map]
    exact h3
  · intro ys ⟨cs, e, ⟨h1, h2⟩, _⟩
    subst e
    rw [List.map_map]
    have : ∀ cs : List Nat, (cs.map ((fun s : Str => s.length) ∘ sgn)).sum = cs.length := by
      intro cs
      induction cs with
      | nil => rfl
      | cons c cs ih => rw [List.map_cons, List.sum_cons, ih, List.length_cons]; show 1 + _ = _; omega
    rw [this]
    omega
  · intro S v ⟨s, ⟨ys, ⟨cs, e, ⟨h1, h2⟩, h3⟩, es⟩, hv⟩
    subst e es
    exact ⟨⟨_, word_of h3 h1 h2⟩, trivial, hv⟩
end Z
end

section
/-! T22: _law_pool, _law_tables. -/
namespace Z
open PySem PySem.Spec L2 PySem.W ZL
variable {g : Gc}
def tVlX : Ty := tEx (fun _ : Vl => True) tVl
theorem sub_vi {i : Int} (h : 0 ≤ i ∧ i ≤ 1000000000) : Sub (tIn i) tVlX := fun S v e => ⟨⟨.inl i, by unfold valOk; simp only [Bool.and_eq_true, decide_eq_true_eq]; exact h⟩, trivial, e⟩
theorem sub_vI : Sub (tIi fun i => 0 ≤ i ∧ i ≤ 1000000000) tVlX := fun S v ⟨i, h, e⟩ => sub_vi h S v e
theorem sub_vs {s : Str} (h : wordOk s = true) : Sub (tSt s) tVlX := fun S v e => ⟨⟨.inr s, h⟩, trivial, e⟩
theorem sub_vn : Sub tNmX tVlX := fun S v ⟨n, _, e⟩ => sub_vs n.2 S v e
section
variable {l : Lc} {M : Md} {G : List Slot} {pos p : Pos} {a b e : Expr}
theorem x_isI {i j : Int} (h : XE g l M G e (tIn i)) (q : i = j) : XE g l M G e (tIn j) := by rw [← q]; exact h
theorem x_vi {i : Int} {k : Nat} (h : 0 ≤ i ∧ i ≤ 1000000000 := by decide) : XE g l M G (.Constant (.int i) k pos) tVlX := x_sub x_int (sub_vi h)
theorem x_vs {s : Str} {k : Nat} (h : wordOk s = true := by decide +kernel) : XE g l M G (.Constant (.str s) k pos) tVlX := x_sub x_str (sub_vs h)
end
def PoolOk (n : Nat) (vs : List Vl) : Prop := 1 ≤ vs.length ∧ vs.length ≤ n
abbrev Plq := { q : Stq × Nat // 1 ≤ q.2 ∧ q.2 ≤ 1000 }
abbrev FnPool (g : Gc) := Fn g "_law_pool" 3 (Spc (fun (q : Plq) M => IsSt q.1.1.a q.1.1.sc M) (fun q => [q.1.1.ty g, tNt q.1.2]) (fun q => tEx (PoolOk q.1.2) fun vs => tLs (vs.map tVl)))
theorem ok_pool (b : Gb g) (F : Df g "_law_pool" (top 60)) (F1 : FnTake g) (F2 : FnLword g) : FnPool g := by
  refine fn_mk (N := ["_law_state", "_law_many", "_law_great", "_law_some", "_law_found", "_law_k"]) (ps := ["_law_state", "_law_many"]) F ⟨rfl, rfl, rfl, by decide +kernel, rfl, by decide +kernel, by decide +kernel⟩ (fun _ => rfl) (by decide) (hb2 fun _ _ _ _ _ _ _ _ => rfl) (fun _ _ _ h => h.dom) fun q M S_0 H_0 hM => ?_
  obtain ⟨⟨q, n⟩, h1, h2⟩ := q
  have hM : IsSt q.a q.sc M := hM
  have h1 : 1 ≤ n := h1
  have h2 : n ≤ 1000 := h2
  have pw : ∀ {G : List Slot} {l : Lc} {p1 p2 p3 : Pos} {k1 k2 : Nat} {j : Nat}, j ≤ 9 → XE g l M G (.BinOp (.Constant (.int 10) k1 p1) .Pow (.Constant (.int (j : Int)) k2 p2) p3) (tNt (10 ^ j)) := fun {G l p1 p2 p3 k1 k2 j} hj => x_isI (x_pow x_int x_int ⟨by omega, by omega, by decide⟩) (by rw [Int.toNat_natCast, Int.natCast_pow]; rfl)
  refine xb_set 2 (t := tIi fun i => 0 ≤ i ∧ i ≤ 1000000000) (x_addX (x_mulX (r := fun i => 0 ≤ i ∧ i ≤ 999990000) (x_sub (x_take F1 hM (n := 10 ^ 5) (by decide) (x_var 0) (pw (j := 5) (by decide))) tk_sub) (x_sub (pw (j := 4) (by decide)) (sub_in (p := fun i => i = 10000) rfl)) fun i j h e => ?_) (x_sub (x_take F1 hM (n := 10 ^ 4) (by decide) (x_var 0) (pw (j := 4) (by decide))) tk_sub) fun i j h h' => ?_) ?_
  · obtain ⟨e1, e2⟩ := h
    have e2 : i < 100000 := e2
    subst e
    exact ⟨.inr ⟨by decide, by decide⟩, by omega, by omega⟩
  · obtain ⟨e1, e2⟩ := h'
    have e2 : j < 10000 := e2
    exact ⟨by omega, by omega⟩
  refine xb_set 3 (t := tEx (Some' 20 fun _ : Vl => True) fun vs => tLs (vs.map tVl)) (x_sub (x_lst (ts := List.replicate 20 tVlX) (xa_cons x_vi (xa_cons x_vi (xa_cons x_vs (xa_cons x_vs (xa_cons x_vi (xa_cons x_vi (xa_cons (x_sub (pw (j := 9) (by decide)) (sub_vi (by decide))) (xa_cons x_vs (xa_cons (x_sub (x_var 2) sub_vI) (xa_cons (x_sub (x_callI F2 q (xa_1 (x_var 0)) hM) sub_vn) (xa_cons x_vs (xa_cons x_vi (xa_cons x_vi (xa_cons x_vs (xa_cons x_vi (xa_cons x_vi (xa_cons x_vi (xa_cons x_vi (xa_cons x_vi (xa_cons x_vi xa_nil))))))))))))))))))))) (by
    have := ls_some (p := fun _ : Vl => True) (T := tVl) (ts := List.replicate 20 tVlX) fun t ht => by rw [List.eq_of_mem_replicate ht]; exact Sub.rfl'
    rw [List.length_replicate] at this
    exact this)) (xb_open 3 rfl fun some hsome => ?_)
  have hl : some.length = 20 := hsome.1
  refine xb_newL 4 fun P => ?_
  refine xb_forX (κ := Nat × Nat) (q := fun z => (0 ≤ (z.1 : Int) ∧ (z.1 : Int) < 4) ∧ (z.2 : Int) = 20) (f := fun z => rngT (z.1 : Int) (z.2 - z.1)) (fun z i (vs : List Vl) => vs.length ≤ n ∧ (1 ≤ i → 1 ≤ vs.length)) (fun z i vs => [.ty (q.ty g), .ty (tNt n), .ty (tIi fun i => 0 ≤ i ∧ i ≤ 1000000000), .ty (tLs (some.map tVl)), .own P (.lst (vs.map tVl)), .unk]) (G1 := fun z i vs => [.ty (q.ty g), .ty (tNt n), .ty (tIi fun i => 0 ≤ i ∧ i ≤ 1000000000), .ty (tLs (some.map tVl)), .own P (.lst (vs.map tVl)), .ty (tIn ((z.1 : Int) + (i : Nat)))]) (vs := [5])
    (xix_rng2 (q := fun i => 0 ≤ i ∧ i < 4) (r := fun i => i = 20) (x_sub (x_take F1 hM (n := 4) (by decide) (x_var 0) x_int) tk_sub) (x_sub (x_lenL (x_var 3) b.len) (sub_in (p := fun i => i = 20) (by rw [List.length_map, hl]; rfl))) (fun i h => ⟨by omega, by omega⟩) (fun i h => ⟨by omega, by omega⟩) b.range) (fun _ => []) (fun z hz => ⟨Nat.zero_le _, fun h => by omega⟩) (fun z hz => rfl) (fun z i vs t hz hit iv => ?_) (fun z i vs t B' hz hit iv _ => ?_) fun z vs hz iv => ?_
  · unfold rngT at hit
    rw [List.getElem?_map] at hit
    obtain ⟨k, hk, rfl⟩ := Option.map_eq_some_iff.mp hit
    obtain ⟨hlt, e⟩ := List.getElem?_eq_some_iff.mp hk
    rw [List.getElem_range] at e
    subst e
    exact xg_name 5
  · have hi : i < z.2 - z.1 := by
      have := (List.getElem?_eq_some_iff.mp hit).1
      unfold rngT at this
      rw [List.length_map, List.length_range] at this
      exact this
    obtain ⟨⟨_, z1⟩, z2⟩ := hz
    have hk : z.1 + i < some.length := by omega
    have ek : (z.1 : Int) + (i : Nat) = ((z.1 + i : Nat) : Int) := by omega
    have item : ∀ {G : List Slot} {p1 p2 p3 : Pos}, G[3]? = Option.some (.ty (tLs (some.map tVl))) → G[5]? = Option.some (.ty (tIn ((z.1 : Int) + (i : Nat)))) → XE g ⟨["_law_state", "_law_many", "_law_great", "_law_some", "_law_found", "_law_k"], defScope (top 60), 2, fun _ => true⟩ M G (.Subscript (.Name "_law_some" p1) (.Name "_law_k" p2) p3) (tVl some[z.1 + i]) := fun {G p1 p2 p3} g3 g5 => x_ixL (n := z.1 + i) (x_var 3 g3) (x_isI (x_var 5 g5) ek) (by rw [List.getElem?_map, List.getElem?_eq_getElem hk]; rfl)
    obtain ⟨iv1, iv2⟩ := iv
    refine xb_one (xs_if (xw_t (xw_andB (x := !decide (some[z.1 + i] ∈ vs)) (y := decide ((vs.length : Int) < (n : Int))) (xt_frz 4 rfl (xt_niL encVl (item rfl rfl) (x_var 4))) fun _ => xw_and1 (xt_frz 4 rfl (xt_is (xt_lt (x_lenL (ts := vs.map tVl) (x_var 4) b.len) (x_var 1)) (by rw [List.length_map]))))) (fun hc => ?_) fun hc => ?_)
    · have hc : (!decide (some[z.1 + i] ∈ vs) && decide ((vs.length : Int) < (n : Int))) = true := hc.symm
      rw [Bool.and_eq_true, decide_eq_true_eq] at hc
      refine xb_app 4 rfl (item rfl rfl) (by rw [List.length_map]; omega) (xb_nil fun σ H ct => ⟨vs ++ [some[z.1 + i]], ⟨by rw [List.length_append, List.length_singleton]; omega, fun _ => by rw [List.length_append, List.length_singleton]; omega⟩, ?_⟩)
      rw [List.map_append]
      exact ct.forget
    · have hc : (!decide (some[z.1 + i] ∈ vs) && decide ((vs.length : Int) < (n : Int))) = false := hc.symm
      refine xb_nil fun σ H ct => ⟨vs, ⟨iv1, fun _ => ?_⟩, ct.forget⟩
      cases vs with
      | nil =>
        exfalso
        rw [show (decide (some[z.1 + i] ∈ ([] : List Vl))) = false from decide_eq_false (by simp)] at hc
        have : ((([] : List Vl).length : Int) < (n : Int)) := by show (0 : Int) < n; omega
        rw [decide_eq_true this] at hc
        cases hc
      | cons _ _ => exact Nat.succ_pos _
  · obtain ⟨iv1, iv2⟩ := iv
    have hr : (rngT (z.1 : Int) (z.2 - z.1)).length = z.2 - z.1 := by unfold rngT; rw [List.length_map, List.length_range]
    refine xb_frz 4 rfl (xb_rt (x_var 4) ?_)
    exact fun S v hv => ⟨vs, ⟨iv2 (by rw [hr]; obtain ⟨⟨_, z1⟩, z2⟩ := hz; omega), iv1⟩, hv⟩
end Z
end

section
/-! T23: _law_tables. -/
namespace Z
open PySem PySem.Spec L2 PySem.W ZL
variable {g : Gc}
section
variable {l : Lc} {M : Md} {G : List Slot} {pos p p2 : Pos} {a b e : Expr} {ts : List Ty}
theorem x_ixLX {n : Nat} (ha : XE g l M G a (tLs ts)) (hb : XE g l M G b (tTk n)) (hn : n ≤ ts.length) (hs : PlainIx b := by exact fun _ _ => rfl) : XE g l M G (.Subscript a b pos) (tEx (fun i => i < n) fun i => ts.getD i tNon) := x_ixP (t := tLs ts) (u := tTk n) (fun X A => ixA_lst A) (fun S H x y Q e ⟨c, vs, h1, h2, h3⟩ ⟨i, hi, hy⟩ k => by
  cases hy
  have hit : ts[i]? = some ts[i] := List.getElem?_eq_getElem (by omega)
  obtain ⟨v, hv, hT⟩ := h3.get hit
  exact ⟨c, vs, i, v, h1, rfl, SqL.of (e _ _ h2), atI_nat hv, k _ S H (Gr.refl e) ⟨i, hi, by show (ts.getD i tNon).is S v; rw [List.getD_eq_getElem?_getD, hit]; exact hT⟩⟩) ha hb hs
theorem x_slLX {q : Int → Prop} (h : XE g l M G a (tLs ts)) (hb : XE g l M G b (tIi q)) (hq : ∀ i, q i → 0 ≤ i) : XE g l M G (.Subscript a (.Slice none (some b) none p2) pos) (tEx (fun k : Nat => q (k : Int)) fun k => tLs (ts.take k)) := fun X A =>
  conv (pe_slice (slA A) (h X A) po_none (po_some (hb X A))) fun σ H Q ⟨S, pr, k⟩ => tE.step pr fun v S1 H1 q1 p1 h1 => tE.step p1 fun w S2 H2 q2 p2 ⟨i, hi, h2⟩ => by
    obtain ⟨c, vs, rfl, h3, h4⟩ := h1
    cases h2
    have e : ((i.toNat : Nat) : Int) = i := by have := hq i hi; omega
    refine ⟨i, rfl, c, vs, rfl, SqL.of (p2.1 _ _ (q2.1.ss _ _ h3)), fun y hy => ?_⟩
    rw [← e, cut_to]
    have gr := Gr.new (o := .lst (vs.take i.toNat)) p2.1 hy
    exact k _ _ _ ((q1.trans q2).trans (Post.of p2.2.1 gr)) ⟨i.toNat, by show q ((i.toNat : Nat) : Int); rw [e]; exact hi, y, _, rfl, upd_same, (h4.take i.toNat).mono (q2.1.ss.comp gr.ss)⟩
end
section
variable {l : Lc} {M : Md} {B S_0 H_0 : Hp} {G : List Slot} {pos : Pos} {e : Expr} {ts : List Ty} {rest : List Stmt} {D : Ends}
theorem upd_eq {H : Hp} {p : Addr} {o : HO} (h : H p = some o) : upd H p o = H := by
  funext a
  by_cases z : a = p
  · subst z; rw [upd_same, h]
  · rw [upd_ne z]
/-- a cell of one's own, told better -/
theorem Ct.recell {κ : Type} {q : κ → Prop} {c' : κ → Cell} {σ : L2.St} {H : Hp} {i : Nat} {p : Addr} {c : Cell} (h : Ct M B S_0 H_0 G σ H) (hG : G[i]? = some (.own p c)) (k : ∀ S o, c.is S o → ∃ j, q j ∧ (c' j).is S o) : ∃ j, q j ∧ Ct M B S_0 H_0 (G.set i (.own p (c' j))) σ H := by
  obtain ⟨S, c1, c2, pr⟩ := h.get
  obtain ⟨x, h1, h2, h3, h4, o, h5, h6⟩ := pr.2.2.at_ i _ hG
  obtain ⟨j, hj, hc⟩ := k S o h6
  have := Ct.wr c1 c2 pr hG hc
  rw [upd_eq h5] at this
  exact ⟨j, hj, this⟩
theorem tys_last {S : Hp} {t : Ty} : ∀ {ts : List Ty} {vs : List V}, Tys S (ts ++ [t]) vs → ∃ ws w, vs = ws ++ [w] ∧ Tys S ts ws ∧ t.is S w
  | [], _, .cons a .nil => ⟨[], _, rfl, .nil, a⟩
  | u :: ts, _, .cons a e => by
    obtain ⟨ws, w, ew, w1, w2⟩ := tys_last e
    exact ⟨_ :: ws, w, by rw [ew]; rfl, .cons a w1, w2⟩
/-- found.append(e), e of some kind -/
theorem xb_appX {κ : Type} {q : κ → Prop} {f : κ → Ty} (i : Nat) {x : Str} {p0 p1 p2 : Pos} {p : Addr} (hG : G[i]? = some (.own p (.lst ts))) (he : XE g l M G e (tEx q f)) (hl : ts.length < 100000) (k : ∀ j, q j → XB g l (Ct M B S_0 H_0 (G.set i (.own p (.lst (ts ++ [f j]))))) rest D) (hN : l.N[i]? = some x := by rfl)
    (hv : Vis l.sc x := by first | exact Or.inl rfl | exact Or.inr (Or.inl rfl) | exact Or.inr (Or.inr rfl)) (h1 : (x == ("__debug__" : Str)) = false := by decide) (h2 : (x == ("__classdict__" : Str)) = false := by decide) (hs : MSh e [] p1 p2 := by exact ⟨fun _ => rfl, rfl, fun _ => rfl, fun _ => rfl⟩)
    (hsw : ∀ env, swapsWith (.Call (.Attribute (.Name x p0) "append" p1) [e] [] p2) none pos.line env = pure false := by intro _; rfl) : XB g l (Ct M B S_0 H_0 G) (.Expr (.Call (.Attribute (.Name x p0) "append" p1) [e] [] p2) pos :: rest) D := by
  refine xb_app i hG he hl (xb_pre (pre := fun σ H => ∃ j : { j // q j }, Ct M B S_0 H_0 (G.set i (.own p (.lst (ts ++ [f j.1])))) σ H) (xb_ex fun j => k j.1 j.2) fun σ H ct => ?_) hN hv h1 h2 hs hsw
  have hi : i < G.length := (List.getElem?_eq_some_iff.mp hG).1
  obtain ⟨j, hj, c⟩ := ct.recell (q := q) (c' := fun j => .lst (ts ++ [f j])) (List.getElem?_set_self hi) fun S o ⟨vs, e1, e2⟩ => by
    obtain ⟨ws, w, ew, w1, w2⟩ := tys_last e2
    obtain ⟨j, hj, w3⟩ := w2
    exact ⟨j, hj, vs, e1, by rw [ew]; exact w1.snoc w3⟩
  rw [List.set_set] at c
  exact ⟨⟨j, hj⟩, c⟩
end
def nm1 : List Nm := [⟨"a", by decide +kernel⟩, ⟨"ab", by decide +kernel⟩, ⟨"b", by decide +kernel⟩]
def nm2 : List Nm := [⟨"rose", by decide +kernel⟩, ⟨"rosea", by decide +kernel⟩, ⟨"z", by decide +kernel⟩]
def nm3 : List Nm := [⟨"b", by decide +kernel⟩, ⟨"ba", by decide +kernel⟩, ⟨"bab", by decide +kernel⟩]
def ltN (s t : Nm) : Prop := s.1.cps.toList < t.1.cps.toList
structure TabsOk (w : Nat) (hs : List (Nm × Nat)) : Prop where
  n1 : 1 ≤ hs.length
  n3 : hs.length ≤ 3
  up : hs.Pairwise fun a b => ltN a.1 b.1
  col : ∀ h ∈ hs, 1 ≤ h.2 ∧ h.2 ≤ w
theorem nms_ok : ∀ i < 3, ∃ ns : List Nm, ([tLs (nm1.map tNm), tLs (nm2.map tNm), tLs (nm3.map tNm)] : List Ty).getD i tNon = tLs (ns.map tNm) ∧ ns.length = 3 ∧ ns.Pairwise ltN := by
  intro i hi
  match i, hi with
  | 0, _ => exact ⟨nm1, rfl, rfl, by unfold nm1 ltN; decide +kernel⟩
  | 1, _ => exact ⟨nm2, rfl, rfl, by unfold nm2 ltN; decide +kernel⟩
  | 2, _ => exact ⟨nm3, rfl, rfl, by unfold nm3 ltN; decide +kernel⟩
abbrev Tbq := { q : Stq × Nat // 1 ≤ q.2 ∧ q.2 ≤ 1000 }
abbrev FnTables (g : Gc) := Fn g "_law_tables" 2 (Spc (fun (q : Tbq) M => IsSt q.1.1.a q.1.1.sc M) (fun q => [q.1.1.ty g, tNt q.1.2]) (fun q => tEx (TabsOk q.1.2) fun hs => tLs (hs.map tHd)))
theorem ok_tables (b : Gb g) (F : Df g "_law_tables" (top 62)) (F1 : FnTake g) : FnTables g := by
  refine fn_mk (N := ["_law_state", "_law_wide", "_law_names", "_law_found", "_law_name"]) (ps := ["_law_state", "_law_wide"]) F ⟨rfl, rfl, rfl, by decide +kernel, rfl, by decide +kernel, by decide +kernel⟩ (fun _ => rfl) (by decide) (hb2 fun _ _ _ _ _ _ _ _ => rfl) (fun _ _ _ h => h.dom) fun q M S_0 H_0 hM => ?_
  obtain ⟨⟨q, w⟩, h1, h2⟩ := q
  have hM : IsSt q.a q.sc M := hM
  have h1 : 1 ≤ w := h1
  have h2 : w ≤ 1000 := h2
  refine xb_set 2 (t := tEx (fun ns : List Nm => ns.length = 3 ∧ ns.Pairwise ltN) fun ns => tLs (ns.map tNm)) (x_sub (x_ixLX (n := 3) (ts := [tLs (nm1.map tNm), tLs (nm2.map tNm), tLs (nm3.map tNm)]) (x_lst (xa_cons (x_lst (xa_cons x_str (xa_cons x_str (xa_cons x_str xa_nil)))) (xa_cons (x_lst (xa_cons x_str (xa_cons x_str (xa_cons x_str xa_nil)))) (xa_cons (x_lst (xa_cons x_str (xa_cons x_str (xa_cons x_str xa_nil)))) xa_nil)))) (x_take F1 hM (n := 3) (by decide) (x_var 0) x_int) (Nat.le_refl 3)) ?_) (xb_open 2 rfl fun ns hns => ?_)
  · intro S v ⟨i, hi, hv⟩
    obtain ⟨ns, e, k⟩ := nms_ok i hi
    have hv : (([tLs (nm1.map tNm), tLs (nm2.map tNm), tLs (nm3.map tNm)] : List Ty).getD i tNon).is S v := hv
    rw [e] at hv
    exact ⟨ns, k, hv⟩
  obtain ⟨n3, up⟩ := hns
  refine xb_newL 3 fun P => ?_
  refine xb_forX (κ := Nat) (q := fun k => 1 ≤ (k : Int) ∧ (k : Int) ≤ 3) (f := fun k => (ns.map tNm).take k) (fun k i (hs : List (Nm × Nat)) => hs.map (·.1) = (ns.take k).take i ∧ ∀ h ∈ hs, 1 ≤ h.2 ∧ h.2 ≤ w) (fun k i hs => [.ty (q.ty g), .ty (tNt w), .ty (tLs (ns.map tNm)), .own P (.lst (hs.map tHd)), .unk]) (G1 := fun k i hs => match (ns.take k)[i]? with
    | some n => [.ty (q.ty g), .ty (tNt w), .ty (tLs (ns.map tNm)), .own P (.lst (hs.map tHd)), .ty (tNm n)]
    | none => []) (vs := [4]) (xix_list (x_slLX (x_var 2) (x_addX (r := fun i => 1 ≤ i ∧ i ≤ 3) (x_intX (p := fun i => i = 1) rfl) (x_sub (x_take F1 hM (n := 3) (by decide) (x_var 0) x_int) tk_sub) fun i j h1 h2 => ⟨by omega, by omega⟩) fun i h => by omega)) (fun _ => []) (fun k hk => ⟨by rw [List.take_zero]; rfl, fun h hh => by cases hh⟩) (fun k hk => rfl) (fun k i hs t hk hit iv => ?_) (fun k i hs t B' hk hit iv _ => ?_) fun k hs hk iv => ?_
  · rw [← List.map_take] at hit
    obtain ⟨n, hn, _, rfl⟩ := map_get hit
    rw [hn]
    exact xg_name 4
  · rw [← List.map_take] at hit
    obtain ⟨n, hn, _, rfl⟩ := map_get hit
    rw [hn]
    have hl : hs.length ≤ 3 := by
      have := congrArg List.length iv.1
      rw [List.length_map, List.length_take, List.length_take] at this
      omega
    refine xb_appX 3 rfl (x_sub (x_tup (ts := [tNm n, tIi fun i => 1 ≤ i ∧ i ≤ (w : Int)]) (xa_2 (x_var 4) (x_addX (x_intX (p := fun i => i = 1) rfl) (x_sub (x_take F1 hM (n := w) ⟨by omega, by omega⟩ (x_var 0) (x_var 1)) tk_sub) fun i j h1 h2 => ⟨by omega, by omega⟩))) (show Sub _ (tEx (fun c : Nat => 1 ≤ c ∧ c ≤ w) fun c => tHd (n, c)) from ?_)) (by rw [List.length_map]; omega) fun c hc => xb_nil fun σ H ct => ⟨hs ++ [(n, c)], ⟨?_, ?_⟩, ?_⟩
    · intro S v ⟨a, vs, e1, e2, e3⟩
      obtain ⟨x, y, rfl, k1, i, ⟨k2, k3⟩, k4⟩ := e3.two
      have e : ((i.toNat : Nat) : Int) = i := by omega
      exact ⟨i.toNat, ⟨by omega, by omega⟩, a, _, e1, e2, .cons k1 (.cons (by show (tIn ((i.toNat : Nat) : Int)).is S y; rw [e]; exact k4) .nil)⟩
    · rw [List.map_append, iv.1, take_succ_get hn]
      rfl
    · intro h hh
      rcases List.mem_append.mp hh with hh | hh
      · exact iv.2 h hh
      · rw [List.mem_singleton.mp hh]; exact hc
    · rw [List.map_append]
      exact ct.forget
  · have hlen : ((ns.map tNm).take k).length = k := by rw [List.length_take, List.length_map]; omega
    have hlk : (ns.take k).length = k := by rw [List.length_take]; omega
    rw [hlen] at iv
    have e1 : hs.map (·.1) = ns.take k := by rw [iv.1, List.take_of_length_le (Nat.le_of_eq hlk)]
    have e2 : hs.length = k := by rw [← hlk, ← e1, List.length_map]
    have u : (hs.map (·.1)).Pairwise ltN := by rw [e1]; exact up.sublist (List.take_sublist ..)
    have hT : TabsOk w hs := ⟨by omega, by omega, List.pairwise_map.mp u, iv.2⟩
    exact xb_frz 3 rfl (xb_rt (x_var 3) (show Sub (tLs (hs.map tHd)) (tEx (TabsOk w) fun hs => tLs (hs.map tHd)) from fun S v hv => ⟨hs, hT, hv⟩))
end Z
end

section
/-! T24: _law_by, _law_heads. -/
namespace Z
open PySem PySem.Spec L2 PySem.W ZL
variable {g : Gc}
theorem ok_by (b : Gb g) (F : Df g "_law_by" (top 74)) : Fn g "_law_by" 1 (Spp (fun q : Pb => [tMs q.1.1, tMs q.1.2]) (fun q => tMs (putBy q.1.1 q.1.2))) := by
  refine fn_mk (N := ["_law_thing", "_law_marks", "_law_found", "_law_mark"]) (ps := ["_law_thing", "_law_marks"]) F ⟨rfl, rfl, rfl, by decide +kernel, rfl, by decide +kernel, by decide +kernel⟩ (fun _ => rfl) (by decide) (hb2 fun _ _ _ _ _ _ _ _ => rfl) (fun _ _ _ h => h) fun q M S_0 H_0 _ => ?_
  obtain ⟨⟨th, ms⟩, h1, h2⟩ := q
  have h2 : ms.length ≤ 1000 := h2
  refine xb_newL 2 fun P => ?_
  refine xb_for (ts := ms.map tMk) (fun i (_ : Unit) => True) (fun i _ => [.ty (tMs th), .ty (tMs ms), .own P (.lst (((ms.take i).map (putM th)).map tMk)), .unk]) (G1 := fun i _ => match ms[i]? with
    | some m => [.ty (tMs th), .ty (tMs ms), .own P (.lst (((ms.take i).map (putM th)).map tMk)), .ty (tMk m)]
    | none => []) (vs := [3]) (xi_tup (x_var 1)) () trivial rfl (fun i _ t hit _ => ?_) (fun i _ t B' hit _ _ => ?_) fun _ _ => ?_
  · obtain ⟨m, hm, _, rfl⟩ := map_get hit
    rw [hm]
    exact xg_name 3
  · obtain ⟨m, hm, hmem, rfl⟩ := map_get hit
    rw [hm]
    refine xb_if (Ct M B' S_0 H_0 [.ty (tMs th), .ty (tMs ms), .own P (.lst (((ms.take i).map (putM th)).map tMk)), .ty (tMk (putM th m))]) (xt_isAny (x_var 3) x_int x_str) (fun ha => ?_) (fun ha => ?_) ?_
    · cases m with
      | is c => cases ha
      | any k =>
        have hk : k < th.length := h1 k hmem
        have e : putM th (.any k) = th[k] := by show th.getD k _ = _; rw [List.getD_eq_getElem?_getD, List.getElem?_eq_getElem hk]; rfl
        rw [e]
        exact xb_set 3 (x_ixT (n := k) (x_var 0) (x_ixT (n := 1) (x_var 3) x_int rfl) (by rw [List.getElem?_map, List.getElem?_eq_getElem hk]; rfl)) (xb_nil fun _ _ h => h)
    · cases m with
      | is c => exact xb_nil fun _ _ h => h
      | any k => cases ha
    · refine xb_app 2 rfl (x_var 3) (by rw [List.length_map, List.length_map, List.length_take]; omega) (xb_nil fun σ H ct => ⟨(), trivial, ?_⟩)
      have e : ((ms.take (i + 1)).map (putM th)).map tMk = ((ms.take i).map (putM th)).map tMk ++ [tMk (putM th m)] := by
        rw [take_succ_get hm, List.map_append, List.map_append]
        rfl
      rw [e]
      exact ct.forget
  · rw [List.length_map, List.take_length]
    exact xb_frz 2 rfl (xb_rt' (x_tupL (x_var 2) b.tuple))

abbrev FnHeads2 (g : Gc) := Fn g "_law_heads" 1 (Spp (fun q : { q : Book × List Book × Ty × Ty // q.1.length ≤ 1000 } => [tLs [tBks (q.1.1 :: q.1.2.1), q.1.2.2.1, q.1.2.2.2]]) (fun q => tLs ((headsOf q.1.1).map tHd)))
theorem ok_law_heads (b : Gb g) (F : Df g "_law_heads" (top 72)) : FnHeads2 g := by
  refine fn_mk (N := ["_law_data_here", "_law_name", "_law_columns", "_law_rows"]) (ps := ["_law_data_here"]) F ⟨rfl, rfl, rfl, by decide +kernel, rfl, by decide +kernel, by decide +kernel⟩ (fun _ => rfl) (by decide) (hb1 fun _ _ _ _ _ _ _ => rfl) (fun _ _ _ h => h) fun q M S_0 H_0 _ => ?_
  obtain ⟨⟨k, bs, t1, t2⟩, h⟩ := q
  have h : k.length ≤ 1000 := h
  refine xb_rt' (x_ty (x_lcA (xs := k) (own := [("_law_name", 1), ("_law_columns", 2), ("_law_rows", 3)]) (vs := [1, 2, 3]) (T := tTab) (U := fun t : Tab => tTu [tNm t.1, tNt t.2.1]) (G1 := fun t => [.ty (tLs [tBks (k :: bs), t1, t2]), .ty (tNm t.1), .ty (tNt t.2.1), .ty (tRows t.2.2)]) (xi_tup (x_ixT (n := 0) (ts := (k :: bs).map tBk) (x_ixL (n := 0) (x_var 0) x_int rfl) x_int rfl)) rfl (blkOk_by (by decide +kernel)) (by omega) (fun t _ => xg_tup (xgs_cons (xg_name 1) (xgs_cons (xg_name 2) (xgs_cons (xg_name 3) xgs_nil)))) fun t _ => x_tup (xa_2 (x_var 1) (x_var 2))) ?_)
  unfold headsOf
  rw [List.map_map]
  rfl
end Z
end

section
/-! T25: _law_field. -/
namespace Z
open PySem PySem.Spec L2 PySem.W ZL
variable {g : Gc}
abbrev FnLfield (g : Gc) (C : Addr) := Fn g "_law_field" 12 (Spp (fun q : Fq => [tLs [tBks q.1.1, tVls q.1.2.1, tTu (q.1.2.2.map tNm)]]) (fun q => tEx (Same q.1.2.1) (tFd C q.1.1)))
theorem ok_law_field {C : Addr} (b : Gb g) (F : Df g "_law_field" (top 65)) (F1 : FmField g C) : FnLfield g C := by
  refine fn_mk (N := ["_law_data_here"]) (ps := ["_law_data_here"]) F ⟨rfl, rfl, rfl, by decide +kernel, rfl, by decide +kernel, by decide +kernel⟩ (fun _ => rfl) (by decide) (hb1 fun _ _ _ _ _ _ _ => rfl) (fun _ _ _ h => h) fun q M S_0 H_0 _ => ?_
  exact xb_rt' (x_makeK F1 (by decide) (ts := [tBks q.1.1]) (us := [tVls q.1.2.1, tTu (q.1.2.2.map tNm)]) (xa_1 (x_ixL (n := 0) (x_var 0) x_int rfl)) (xk_cons (x_ixL (n := 1) (x_var 0) x_int rfl) (xk_cons (x_ixL (n := 2) (x_var 0) x_int rfl) xk_nil)) q rfl rfl rfl)
end Z
end

section
/-! T26: _law_mark_key, _law_line_key. -/
namespace Z
open PySem PySem.Spec L2 PySem.W ZL
variable {g : Gc}
def tMkk : Mark → Ty
  | .any k => tLs [tIn 0, tNt k, tBl false, tIn 0]
  | .is v => tLs [tIn 1, tIn 0, tBl (isT v.1), tVl v]
def dMkk : Mark → PyData
  | .any k => .list [.int 0, .int (k : Int), .bool false, .int 0]
  | .is v => .list [.int 1, .int 0, .bool (isT v.1), dKy v.1]
theorem kit_str (k : Key) : kitB (kTag k) "str" = some (isT k) := by
  cases k with
  | inl i => exact (by decide +kernel : kitB "int" "str" = some false)
  | inr s => exact (by decide +kernel : kitB "str" "str" = some true)
abbrev FnMkk (g : Gc) := Fn g "_law_mark_key" 1 (Spp (fun m : Mark => [tMk m]) tMkk)
theorem ok_mark_key (b : Gb g) (F : Df g "_law_mark_key" (top 66)) : FnMkk g := by
  refine fn_mk (N := ["_law_mark"]) (ps := ["_law_mark"]) F ⟨rfl, rfl, rfl, by decide +kernel, rfl, by decide +kernel, by decide +kernel⟩ (fun _ => rfl) (by decide) (hb1 fun _ _ _ _ _ _ _ => rfl) (fun _ _ _ h => h) fun m M S_0 H_0 _ => ?_
  cases m with
  | any k =>
    refine xb_when (xt_is (y := true) (xt_isAny (x_var 0) x_int x_str) rfl) (fun _ => ?_) fun h => nomatch h
    exact xb_rt' (x_lst (ts := [tIn 0, tNt k, tBl false, tIn 0]) (xa_cons x_int (xa_cons (x_ixT (n := 1) (t := tNt k) (x_var 0) x_int rfl) (xa_cons x_bl (xa_cons x_int xa_nil)))))
  | is v =>
    refine xb_when (xt_is (y := false) (xt_isAny (x_var 0) x_int x_str) rfl) (fun h => nomatch h) fun _ => ?_
    exact xb_rt' (x_lst (ts := [tIn 1, tIn 0, tBl (isT v.1), tVl v]) (xa_cons x_int (xa_cons x_int (xa_cons (x_isi (x_ixT (n := 1) (t := tVl v) (x_var 0) x_int rfl) (tag_ky v.1) (kit_str v.1) b.isinstance b.str boot_str') (xa_cons (x_ixT (n := 1) (t := tVl v) (x_var 0) x_int rfl) xa_nil)))))
def tLnk (l : Line) : Ty := tLs (tNm l.1 :: l.2.map tMkk)
abbrev FnLnk (g : Gc) := Fn g "_law_line_key" 2 (Spp (fun l : { l : Line // l.2.length ≤ 1000 } => [tLn l.1]) (fun l => tLnk l.1))
theorem ok_line_key (b : Gb g) (F : Df g "_law_line_key" (top 67)) (F1 : FnMkk g) : FnLnk g := by
  refine fn_mk (N := ["_law_line", "_law_mark"]) (ps := ["_law_line"]) F ⟨rfl, rfl, rfl, by decide +kernel, rfl, by decide +kernel, by decide +kernel⟩ (fun _ => rfl) (by decide) (hb1 fun _ _ _ _ _ _ _ => rfl) (fun _ _ _ h => h) fun l M S_0 H_0 _ => ?_
  obtain ⟨⟨n, ms⟩, h⟩ := l
  have h : ms.length ≤ 1000 := h
  exact xb_rt' (x_catL (ts := [tNm n]) (us := ms.map tMkk) (x_lst (xa_cons (x_ixT (n := 0) (t := tNm n) (x_var 0) x_int rfl) xa_nil)) (x_lcA (xs := ms) (own := [("_law_mark", 1)]) (vs := [1]) (T := tMk) (U := tMkk) (G1 := fun m => [.ty (tLn (n, ms)), .ty (tMk m)]) (xi_tup (x_ixT (n := 1) (t := tMs ms) (x_var 0) x_int rfl)) rfl (blkOk_by (by decide +kernel)) (by omega) (fun m _ => xg_name 1) fun m _ => x_callI F1 m (xa_1 (x_var 1)) trivial) (by rw [List.length_map]; show 1 + ms.length ≤ _; omega))
end Z
end

section
/-! T27: _law_numbers. -/
namespace Z
open PySem PySem.Spec L2 PySem.W ZL
variable {g : Gc}
def numOf : Mark → Nat
  | .any k => k
  | .is _ => 0
/-- the new numbers of marks -/
def newNums (f : List Nat) (ms : List Mark) : List Nat := (ms.filter fun m => isAny m && !decide (numOf m ∈ f)).map numOf
def lawNums (ls : List Line) : List Nat := ls.foldl (fun f l => f ++ newNums f l.2) []
theorem newNums_len {f : List Nat} {ms : List Mark} : (newNums f ms).length ≤ ms.length := by
  unfold newNums
  rw [List.length_map]
  exact List.length_filter_le _ _
theorem lawNums_snoc {ls : List Line} {l : Line} : lawNums (ls ++ [l]) = lawNums ls ++ newNums (lawNums ls) l.2 := by
  unfold lawNums
  rw [List.foldl_append]
  rfl
theorem lawNums_len {ls : List Line} {w : Nat} (h : ∀ l ∈ ls, l.2.length ≤ w) : (lawNums ls).length ≤ ls.length * w := by
  induction ls using snocInd with
  | h0 => simp [lawNums]
  | hs ls l ih =>
    rw [lawNums_snoc, List.length_append, List.length_append, List.length_singleton, Nat.add_mul, Nat.one_mul]
    have h1 := ih fun x hx => h x (List.mem_append_left _ hx)
    have h2 := h l (by simp)
    have h3 := newNums_len (f := lawNums ls) (ms := l.2)
    omega
theorem lawNums_mem {ls : List Line} {k : Nat} : k ∈ lawNums ls ↔ ∃ l ∈ ls, Mark.any k ∈ l.2 := by
  induction ls using snocInd with
  | h0 => simp [lawNums]
  | hs ls l ih =>
    rw [lawNums_snoc, List.mem_append, ih]
    constructor
    · rintro (⟨x, h1, h2⟩ | h)
      · exact ⟨x, List.mem_append_left _ h1, h2⟩
      · obtain ⟨m, hm, e⟩ := List.mem_map.mp h
        obtain ⟨h1, h2⟩ := List.mem_filter.mp hm
        cases m with
        | any j => cases e; exact ⟨l, by simp, h1⟩
        | is v => simp [isAny] at h2
    · rintro ⟨x, h1, h2⟩
      rcases List.mem_append.mp h1 with h1 | h1
      · exact .inl ⟨x, h1, h2⟩
      · rw [List.mem_singleton.mp h1] at h2
        by_cases hk : k ∈ lawNums ls
        · exact .inl (ih.mp hk)
        · exact .inr (List.mem_map.mpr ⟨.any k, List.mem_filter.mpr ⟨h2, by simp [isAny, numOf, hk]⟩, rfl⟩)
structure LnsOk (ls : List Line) : Prop where
  few : ls.length ≤ 10
  len : ∀ l ∈ ls, l.2.length ≤ 5
abbrev Lnq := { q : Bool × List Line // LnsOk q.2 }
abbrev FnLnums (g : Gc) := Fn g "_law_numbers" 1 (Spp (fun q : Lnq => [tSeq q.1.1 (q.1.2.map tLn)]) (fun q => tEx (Srt ((lawNums q.1.2).map fun k : Nat => (k : Int))) fun ms => tLs (ms.map tIn)))
theorem ok_law_numbers (b : Gb g) (F : Df g "_law_numbers" (top 68)) : FnLnums g := by
  refine fn_mk (N := ["_law_lines", "_law_found", "_law_name", "_law_marks", "_law_mark"]) (ps := ["_law_lines"]) F ⟨rfl, rfl, rfl, by decide +kernel, rfl, by decide +kernel, by decide +kernel⟩ (fun _ => rfl) (by decide) (hb1 fun _ _ _ _ _ _ _ => rfl) (fun _ _ _ h => h) fun q M S_0 H_0 _ => ?_
  obtain ⟨⟨bb, ls⟩, h⟩ := q
  have h : LnsOk ls := h
  have h1 := h.few
  refine xb_newL 1 fun P => ?_
  refine xb_for (ts := ls.map tLn) (fun i (_ : Unit) => True) (fun i _ => [.ty (tSeq bb (ls.map tLn)), .own P (.lst ((lawNums (ls.take i)).map tNt)), .unk, .unk, .unk]) (G1 := fun i _ => match ls[i]? with
    | some l => [.ty (tSeq bb (ls.map tLn)), .own P (.lst ((lawNums (ls.take i)).map tNt)), .ty (tNm l.1), .ty (tMs l.2), .unk]
    | none => []) (vs := [2, 3]) (xi_seq (x_var 0)) () trivial rfl (fun i _ t hit _ => ?_) (fun i _ t B' hit _ _ => ?_) fun _ _ => ?_
  · obtain ⟨l, hl, _, rfl⟩ := map_get hit
    rw [hl]
    exact xg_tup (xgs_cons (xg_name 2) (xgs_cons (xg_name 3) xgs_nil))
  · obtain ⟨l, hl, hm, rfl⟩ := map_get hit
    rw [hl, take_succ_get hl, lawNums_snoc]
    have w := h.len l hm
    have tl : (lawNums (ls.take i)).length ≤ 50 := by
      have := lawNums_len (ls := ls.take i) (w := 5) fun x hx => h.len x (List.mem_of_mem_take hx)
      rw [List.length_take] at this
      omega
    refine xb_one (xs_ext (q := fun _ : Unit => True) (f := fun _ => (newNums (lawNums (ls.take i)) l.2).map tNt) 1 rfl (x_sub (x_lcD (xs := l.2) (own := [("_law_mark", 4)]) (vs := [4]) (T := tMk) (U := fun m => tNt (numOf m)) (f := fun m => isAny m && !decide (numOf m ∈ lawNums (ls.take i))) (G1 := fun m => [.ty (tSeq bb (ls.map tLn)), .own P (.lst ((lawNums (ls.take i)).map tNt)), .ty (tNm l.1), .ty (tMs l.2), .ty (tMk m)]) (xi_tup (x_var 3)) rfl (blkOk_by (by decide +kernel)) (by omega) (fun m _ => xg_name 4) (fun m _ => xts_one (xw_t (xw_andB (xt_isAny (x_var 4) x_int x_str) fun ha => ?_))) fun m _ hm => ?_) ?_) (fun _ _ => ?_) fun _ σ H _ ct => ?_)
    · cases m with
      | any k => exact xw_and1 (xt_frz 1 rfl (xt_niL encNt (x_ixT (n := 1) (t := tNt k) (x_var 4) x_int rfl) (x_var 1)))
      | is v => cases ha
    · cases m with
      | any k => exact x_ixT (n := 1) (t := tNt k) (x_var 4) x_int rfl
      | is v => cases hm
    · intro S v hv
      refine ⟨(), trivial, ?_⟩
      unfold newNums
      rw [List.map_map]
      exact hv
    · have := newNums_len (f := lawNums (ls.take i)) (ms := l.2)
      rw [List.length_map, List.length_map]
      omega
    · refine ⟨(), trivial, ?_⟩
      rw [List.map_append]
      exact ct.forget
  · rw [List.length_map, List.take_length]
    have tl : (lawNums ls).length ≤ 50 := by
      have := lawNums_len (ls := ls) (w := 5) fun x hx => h.len x hx
      omega
    refine xb_frz 1 rfl (xb_rt' (x_sortS (xc_set (ns := (lawNums ls).map fun k : Nat => (k : Int)) (x_ty (x_var 1) (by rw [List.map_map]; rfl)) (by rw [List.length_map]; omega) b.set) (by rw [List.length_map]; omega) b.sorted))
end Z
end

section
/-! T28: list.index, _law_put_right. -/
namespace Z
open PySem PySem.Spec L2 PySem.W ZL
variable {g : Gc}
section
variable {l : Lc} {M : Md} {G : List Slot} {p1 p2 : Pos} {a e : Expr}
theorem ints_vals {S : Hp} : ∀ {ns : List Int} {vs : List V}, Tys S (ns.map tIn) vs → vs = ns.map V.int
  | [], _, h => by cases h; rfl
  | n :: ns, _, h => by
    cases h with
    | cons x t => rw [ints_vals t, show _ = V.int n from x]; rfl
theorem x_index {ns : List Int} {k : Int} {j : Nat} (ha : XE g l M G a (tLs (ns.map tIn))) (he : XE g l M G e (tIn k)) (hj : ns[j]? = some k) (hno : ∀ m z, m < j → ns[m]? = some z → z ≠ k) (hb : ∀ env, attributeBase a "index" env (eval a env) = eval a env := by intro _; rfl) (hs : MSh e [] p1 p2 := by exact ⟨fun _ => rfl, rfl, fun _ => rfl, fun _ => rfl⟩) :
    XE g l M G (.Call (.Attribute a "index" p1) [e] [] p2) (tNt j) := fun X A =>
  conv (pe_bm PySem.F.plainAttrs_list PySem.F.slot_list_index PySem.F.type_list_index mt_index (ha X A) (pa_cons (he X A) pa_nil (hs.star _)) (hb _) (hs.few _) hs.line (hs.star _) (hs.plain _)) fun σ H Q ⟨S, pr, q⟩ => tE.step pr fun v S1 H1 q1 p1 ⟨c, vs, e1, h1, h2⟩ => by
    subst e1
    have ev : vs = ns.map V.int := ints_vals h2
    subst ev
    refine ⟨.inl ⟨rfl, _, SqL.of (p1.1 _ _ h1)⟩, tE.step p1 fun w S2 H2 q2 p2 hw => ?_⟩
    cases hw
    refine ⟨c, _, _, j, .int k, rfl, rfl, SqL.of (p2.1 _ _ (q2.1.ss _ _ h1)), rfl, by rw [List.all_map]; exact List.all_eq_true.mpr fun _ _ => rfl, by rw [List.getElem?_map, hj]; rfl, by show (k == k) = true; exact beq_self_eq_true k, fun m z' hm hz => ?_, q _ S2 H2 (q1.trans q2) rfl⟩
    rw [List.getElem?_map] at hz
    obtain ⟨z, hz2, rfl⟩ := Option.map_eq_some_iff.mp hz
    show (z == k) = false
    exact beq_eq_false_iff_ne.mpr (hno m z hm hz2)
end
end Z
end

section
/-! T29: _law_put_right. -/
namespace Z
open PySem PySem.Spec L2 PySem.W ZL
variable {g : Gc}
instance (priority := 5000) decLn (v : Line) (u : List Line) : Decidable (v ∈ u) := @List.instDecidableMemOfLawfulBEq Line instBEqOfDecidableEq _ v u
/-- the place of a number -/
def plc : List Int → Int → Nat
  | [], _ => 0
  | x :: xs, k => if x = k then 0 else plc xs k + 1
theorem plc_at : ∀ {xs : List Int} {k : Int}, k ∈ xs → xs[plc xs k]? = some k
  | x :: xs, k, h => by
    unfold plc
    by_cases e : x = k
    · rw [if_pos e, e]; rfl
    · rw [if_neg e, List.getElem?_cons_succ]
      exact plc_at (by rcases List.mem_cons.mp h with z | z; exact absurd z.symm e; exact z)
theorem plc_no : ∀ {xs : List Int} {k : Int} (m : Nat) (z : Int), m < plc xs k → xs[m]? = some z → z ≠ k
  | [], _, _, _, h, _ => absurd h (Nat.not_lt_zero _)
  | x :: xs, k, m, z, h, hz => by
    unfold plc at h
    by_cases e : x = k
    · rw [if_pos e] at h; exact absurd h (Nat.not_lt_zero _)
    · rw [if_neg e] at h
      cases m with
      | zero => cases hz; exact e
      | succ m => exact plc_no m z (by omega) hz
def rnM (ms : List Int) : Mark → Mark
  | .is v => .is v
  | .any k => .any (plc ms (k : Int))
def rnL (ms : List Int) (l : Line) : Line := (l.1, l.2.map (rnM ms))
def addL (f : List Line) (l : Line) : List Line := if l ∈ f then f else f ++ [l]
def onceL (ls : List Line) : List Line := ls.foldl addL []
theorem onceL_snoc {ls : List Line} {l : Line} : onceL (ls ++ [l]) = addL (onceL ls) l := by
  unfold onceL
  rw [List.foldl_append]
  rfl
theorem onceL_len {ls : List Line} : (onceL ls).length ≤ ls.length := by
  induction ls using snocInd with
  | h0 => exact Nat.le_refl _
  | hs ls l ih =>
    rw [onceL_snoc, List.length_append, List.length_singleton]
    unfold addL
    split
    · omega
    · rw [List.length_append, List.length_singleton]; omega
theorem onceL_mem {ls : List Line} {l : Line} : l ∈ onceL ls ↔ l ∈ ls := by
  induction ls using snocInd with
  | h0 => rfl
  | hs ls x ih =>
    rw [onceL_snoc, List.mem_append, List.mem_singleton]
    unfold addL
    split
    · rename_i h
      rw [ih]
      exact ⟨.inl, fun z => z.elim id fun e => by subst e; exact ih.mp h⟩
    · rw [List.mem_append, List.mem_singleton, ih]
theorem onceL_nodup {ls : List Line} : (onceL ls).Nodup := by
  induction ls using snocInd with
  | h0 => exact List.nodup_nil
  | hs ls x ih =>
    rw [onceL_snoc]
    unfold addL
    split
    · exact ih
    · rename_i h
      rw [List.nodup_append]
      exact ⟨ih, by simp, fun a ha b hb e => h (by rw [List.mem_singleton] at hb; rw [← hb, ← e]; exact ha)⟩
def dLnk (l : Line) : PyData := .list (.str l.1.1 :: l.2.map dMkk)
structure PrOk (hd : List Mark) (ls : List Line) : Prop where
  ln : LnsOk ls
  hl : hd.length ≤ 1000
  cov : ∀ k, Mark.any k ∈ hd → k ∈ lawNums ls
theorem isD_mkk (m : Mark) : isD (tMkk m) (dMkk m) := by
  cases m with
  | any k => exact isD_ls ⟨isD_in, isD_in, isD_bl, isD_in, trivial⟩
  | is v => exact isD_ls ⟨isD_in, isD_in, isD_bl, isD_ky v.1, trivial⟩
theorem dt_bl {b : Bool} : Dt (.bool b) 0 := ⟨rfl, Nat.le_refl _⟩
theorem dt_mkk (m : Mark) : Dt (dMkk m) 1 := by
  cases m with
  | any k =>
    refine dt_lst fun d hd => ?_
    rcases List.mem_cons.mp hd with rfl | hd
    · exact dt_int
    rcases List.mem_cons.mp hd with rfl | hd
    · exact dt_int
    rcases List.mem_cons.mp hd with rfl | hd
    · exact dt_bl
    rw [List.mem_singleton.mp hd]
    exact dt_int
  | is v =>
    refine dt_lst fun d hd => ?_
    rcases List.mem_cons.mp hd with rfl | hd
    · exact dt_int
    rcases List.mem_cons.mp hd with rfl | hd
    · exact dt_int
    rcases List.mem_cons.mp hd with rfl | hd
    · exact dt_bl
    rw [List.mem_singleton.mp hd]
    exact dt_ky (val_key v.2)
theorem isD_lnk (l : Line) : isD (tLnk l) (dLnk l) := isD_ls ⟨isD_st, isDs_map isD_mkk l.2⟩
theorem dt_lnk (l : Line) : Dt (dLnk l) 2 := dt_lst fun d hd => by
  rcases List.mem_cons.mp hd with rfl | hd
  · exact (dt_str (word_str l.1.2)).mono (by decide)
  · obtain ⟨m, _, rfl⟩ := List.mem_map.mp hd
    exact dt_mkk m
theorem kin_mkk (a b : Mark) : kin (dMkk a) (dMkk b) = true := by
  cases a with
  | any i => cases b with
    | any j => simp [dMkk, kin, kinAll, PyData.eqv]
    | is w => simp [dMkk, kin, kinAll, PyData.eqv]
  | is v => cases b with
    | any j => simp [dMkk, kin, kinAll, PyData.eqv]
    | is w =>
      obtain ⟨v, hv⟩ := v
      obtain ⟨w, hw⟩ := w
      cases v <;> cases w <;> simp [dMkk, kin, kinAll, PyData.eqv, dKy, isT]
theorem kin_lnk (a b : Line) : kin (dLnk a) (dLnk b) = true := by
  unfold dLnk
  simp only [kin]
  rw [kinAll_cons]
  split
  · exact kinAll_map (fun v w _ => kin_mkk v w) _ _
  · rfl
theorem kinL_lnk (ls : List Line) : KinL (ls.map dLnk) := ⟨fun d hd => by
  obtain ⟨r, _, rfl⟩ := List.mem_map.mp hd
  exact ⟨_, rfl⟩, fun d hd => by
  obtain ⟨r, _, rfl⟩ := List.mem_map.mp hd
  exact (dt_lnk r).lay, fun d hd d' hd' => by
  obtain ⟨r, _, rfl⟩ := List.mem_map.mp hd
  obtain ⟨s, _, rfl⟩ := List.mem_map.mp hd'
  exact kin_lnk r s⟩
def prOf (ms : List Int) (hd : List Mark) (ls : List Line) : Sheet := (hd.map (rnM ms), (onceL (ls.map (rnL ms))).mergeSort (dLe dLnk))
abbrev Prq := { q : List Mark × List Line // PrOk q.1 q.2 }
def numsI (ls : List Line) : List Int := (lawNums ls).map fun k : Nat => (k : Int)
abbrev FnPr (g : Gc) := Fn g "_law_put_right" 4 (Spp (fun q : Prq => [tMs q.1.1, tLs (q.1.2.map tLn)]) (fun q => tEx (Srt (numsI q.1.2)) fun ms => tSh (prOf ms q.1.1 q.1.2)))
theorem ok_put_right (b : Gb g) (F : Df g "_law_put_right" (top 70)) (F1 : FnLnums g) (F2 : FnLnk g) : FnPr g := by
  refine fn_mk (N := ["_law_head", "_law_lines", "_law_numbers_here", "_law_once", "_law_name", "_law_marks", "_law_told", "_law_mark", "_law_found"]) (ps := ["_law_head", "_law_lines"]) F ⟨rfl, rfl, rfl, by decide +kernel, rfl, by decide +kernel, by decide +kernel⟩ (fun _ => rfl) (by decide) (hb2 fun _ _ _ _ _ _ _ _ => rfl) (fun _ _ _ h => h) fun q M S_0 H_0 _ => ?_
  obtain ⟨⟨hd, ls⟩, h⟩ := q
  have h : PrOk hd ls := h
  have h1 := h.ln.few
  have h2 : hd.length ≤ 1000 := h.hl
  refine xb_set 2 (t := tEx (Srt (numsI ls)) fun ms => tLs (ms.map tIn)) (x_callI F1 ⟨(true, ls), h.ln⟩ (xa_1 (x_var 1)) trivial) (xb_open 2 rfl fun ms hms => ?_)
  have hin : ∀ k, k ∈ lawNums ls → (k : Int) ∈ ms := fun k hk => (hms.2 _).mpr (List.mem_map.mpr ⟨k, hk, rfl⟩)
  refine xb_newL 3 fun P => ?_
  refine xb_for (ts := ls.map tLn) (fun i (_ : Unit) => True) (fun i _ => [.ty (tMs hd), .ty (tLs (ls.map tLn)), .ty (tLs (ms.map tIn)), .own P (.lst ((onceL ((ls.take i).map (rnL ms))).map tLn)), .unk, .unk, .unk, .unk, .unk]) (G1 := fun i _ => match ls[i]? with
    | some l => [.ty (tMs hd), .ty (tLs (ls.map tLn)), .ty (tLs (ms.map tIn)), .own P (.lst ((onceL ((ls.take i).map (rnL ms))).map tLn)), .ty (tNm l.1), .ty (tMs l.2), .unk, .unk, .unk]
    | none => []) (vs := [4, 5]) (xi_list (x_var 1)) () trivial rfl (fun i _ t hit _ => ?_) (fun i _ t B' hit _ _ => ?_) fun _ _ => ?_
  · obtain ⟨l, hl, _, rfl⟩ := map_get hit
    rw [hl]
    exact xg_tup (xgs_cons (xg_name 4) (xgs_cons (xg_name 5) xgs_nil))
  · obtain ⟨l, hl, hlm, rfl⟩ := map_get hit
    rw [hl, take_succ_get hl, List.map_append]
    have w := h.ln.len l hlm
    have tl : (onceL ((ls.take i).map (rnL ms))).length ≤ 10 := by
      refine Nat.le_trans onceL_len ?_
      rw [List.length_map, List.length_take]
      omega
    refine xb_newL 6 fun P2 => ?_
    refine xb_for (ts := l.2.map tMk) (fun j (_ : Unit) => True) (fun j _ => [.ty (tMs hd), .ty (tLs (ls.map tLn)), .ty (tLs (ms.map tIn)), .own P (.lst ((onceL ((ls.take i).map (rnL ms))).map tLn)), .ty (tNm l.1), .ty (tMs l.2), .own P2 (.lst (((l.2.take j).map (rnM ms)).map tMk)), .unk, .unk]) (G1 := fun j _ => match l.2[j]? with
      | some m => [.ty (tMs hd), .ty (tLs (ls.map tLn)), .ty (tLs (ms.map tIn)), .own P (.lst ((onceL ((ls.take i).map (rnL ms))).map tLn)), .ty (tNm l.1), .ty (tMs l.2), .own P2 (.lst (((l.2.take j).map (rnM ms)).map tMk)), .ty (tMk m), .unk]
      | none => []) (vs := [7]) (xi_tup (x_var 5)) () trivial rfl (fun j _ t hit _ => ?_) (fun j _ t B2 hit _ _ => ?_) fun _ _ => ?_
    · obtain ⟨m, hm, _, rfl⟩ := map_get hit
      rw [hm]
      exact xg_name 7
    · obtain ⟨m, hm, hmem, rfl⟩ := map_get hit
      rw [hm]
      refine xb_if (Ct M B2 S_0 H_0 [.ty (tMs hd), .ty (tLs (ls.map tLn)), .ty (tLs (ms.map tIn)), .own P (.lst ((onceL ((ls.take i).map (rnL ms))).map tLn)), .ty (tNm l.1), .ty (tMs l.2), .own P2 (.lst (((l.2.take j).map (rnM ms)).map tMk)), .ty (tMk (rnM ms m)), .unk]) (xt_isAny (x_var 7) x_int x_str) (fun ha => ?_) (fun ha => ?_) ?_
      · cases m with
        | is c => cases ha
        | any k =>
          have hk := hin k (lawNums_mem.mpr ⟨l, hlm, hmem⟩)
          exact xb_set 7 (x_tup (ts := [tSt "any", tNt (plc ms (k : Int))]) (xa_2 x_str (x_index (x_var 2) (x_ixT (n := 1) (t := tNt k) (x_var 7) x_int rfl) (plc_at hk) fun m z => plc_no m z))) (xb_nil fun _ _ h => h)
      · cases m with
        | is c => exact xb_nil fun _ _ h => h
        | any k => cases ha
      · refine xb_app 6 rfl (x_var 7) (by rw [List.length_map, List.length_map, List.length_take]; omega) (xb_nil fun σ H ct => ⟨(), trivial, ?_⟩)
        have e : ((l.2.take (j + 1)).map (rnM ms)).map tMk = ((l.2.take j).map (rnM ms)).map tMk ++ [tMk (rnM ms m)] := by
          rw [take_succ_get hm, List.map_append, List.map_append]
          rfl
        rw [e]
        exact ct.forget
    · rw [List.length_map, List.take_length]
      refine xb_frz 6 rfl ?_
      have item : ∀ {G : List Slot} {p1 p2 p3 p4 p5 : Pos} {k1 : Nat}, G[4]? = some (.ty (tNm l.1)) → G[6]? = some (.ty (tLs ((l.2.map (rnM ms)).map tMk))) → True := fun _ _ => trivial
      refine xb_one (xs_if (xt_frz 3 rfl (xt_niL encLn (x := rnL ms l) (xs := onceL ((ls.take i).map (rnL ms))) (x_tup (ts := [tNm l.1, tMs (l.2.map (rnM ms))]) (xa_2 (x_var 4) (x_tupL (x_var 6) b.tuple))) (x_var 3))) (fun hc => ?_) fun hc => ?_)
      · have hc : rnL ms l ∉ onceL ((ls.take i).map (rnL ms)) := by
          have : true = !decide (rnL ms l ∈ onceL ((ls.take i).map (rnL ms))) := hc
          intro z
          rw [decide_eq_true z] at this
          cases this
        refine xb_app 3 rfl (x_tup (ts := [tNm l.1, tMs (l.2.map (rnM ms))]) (xa_2 (x_var 4) (x_tupL (x_var 6) b.tuple))) (by rw [List.length_map]; omega) (xb_nil fun σ H ct => ⟨(), trivial, ?_⟩)
        have e : onceL ((ls.take i).map (rnL ms) ++ [l].map (rnL ms)) = onceL ((ls.take i).map (rnL ms)) ++ [rnL ms l] := by
          show onceL ((ls.take i).map (rnL ms) ++ [rnL ms l]) = _
          rw [onceL_snoc]
          unfold addL
          rw [if_neg hc]
        rw [e, List.map_append]
        exact ct.forget
      · have hc : rnL ms l ∈ onceL ((ls.take i).map (rnL ms)) := by
          have : false = !decide (rnL ms l ∈ onceL ((ls.take i).map (rnL ms))) := hc
          by_cases z : rnL ms l ∈ onceL ((ls.take i).map (rnL ms))
          · exact z
          · rw [decide_eq_false z] at this; cases this
        refine xb_nil fun σ H ct => ⟨(), trivial, ?_⟩
        have e : onceL ((ls.take i).map (rnL ms) ++ [l].map (rnL ms)) = onceL ((ls.take i).map (rnL ms)) := by
          show onceL ((ls.take i).map (rnL ms) ++ [rnL ms l]) = _
          rw [onceL_snoc]
          unfold addL
          rw [if_pos hc]
        rw [e]
        exact ct.forget
  · rw [List.length_map, List.take_length]
    refine xb_newL 8 fun P2 => ?_
    refine xb_for (ts := hd.map tMk) (fun j (_ : Unit) => True) (fun j _ => [.ty (tMs hd), .ty (tLs (ls.map tLn)), .ty (tLs (ms.map tIn)), .own P (.lst ((onceL (ls.map (rnL ms))).map tLn)), .unk, .unk, .unk, .unk, .own P2 (.lst (((hd.take j).map (rnM ms)).map tMk))]) (G1 := fun j _ => match hd[j]? with
      | some m => [.ty (tMs hd), .ty (tLs (ls.map tLn)), .ty (tLs (ms.map tIn)), .own P (.lst ((onceL (ls.map (rnL ms))).map tLn)), .unk, .unk, .unk, .ty (tMk m), .own P2 (.lst (((hd.take j).map (rnM ms)).map tMk))]
      | none => []) (vs := [7]) (xi_tup (x_var 0)) () trivial rfl (fun j _ t hit _ => ?_) (fun j _ t B2 hit _ _ => ?_) fun _ _ => ?_
    · obtain ⟨m, hm, _, rfl⟩ := map_get hit
      rw [hm]
      exact xg_name 7
    · obtain ⟨m, hm, hmem, rfl⟩ := map_get hit
      rw [hm]
      refine xb_if (Ct M B2 S_0 H_0 [.ty (tMs hd), .ty (tLs (ls.map tLn)), .ty (tLs (ms.map tIn)), .own P (.lst ((onceL (ls.map (rnL ms))).map tLn)), .unk, .unk, .unk, .ty (tMk (rnM ms m)), .own P2 (.lst (((hd.take j).map (rnM ms)).map tMk))]) (xt_isAny (x_var 7) x_int x_str) (fun ha => ?_) (fun ha => ?_) ?_
      · cases m with
        | is c => cases ha
        | any k =>
          have hk := hin k (h.cov k hmem)
          exact xb_set 7 (x_tup (ts := [tSt "any", tNt (plc ms (k : Int))]) (xa_2 x_str (x_index (x_var 2) (x_ixT (n := 1) (t := tNt k) (x_var 7) x_int rfl) (plc_at hk) fun m z => plc_no m z))) (xb_nil fun _ _ h => h)
      · cases m with
        | is c => exact xb_nil fun _ _ h => h
        | any k => cases ha
      · refine xb_app 8 rfl (x_var 7) (by rw [List.length_map, List.length_map, List.length_take]; omega) (xb_nil fun σ H ct => ⟨(), trivial, ?_⟩)
        have e : ((hd.take (j + 1)).map (rnM ms)).map tMk = ((hd.take j).map (rnM ms)).map tMk ++ [tMk (rnM ms m)] := by
          rw [take_succ_get hm, List.map_append, List.map_append]
          rfl
        rw [e]
        exact ct.forget
    · rw [List.length_map, List.take_length]
      refine xb_frz 3 rfl (xb_frz 8 rfl ?_)
      have lw : ∀ x ∈ onceL (ls.map (rnL ms)), x.2.length ≤ 1000 := fun x hx => by
        obtain ⟨l, hl, rfl⟩ := List.mem_map.mp (onceL_mem.mp hx)
        have := h.ln.len l hl
        show (l.2.map (rnM ms)).length ≤ _
        rw [List.length_map]
        omega
      exact xb_rt (x_tup (ts := [tMs (hd.map (rnM ms)), tLns ((onceL (ls.map (rnL ms))).mergeSort (dLe dLnk))]) (xa_2 (x_tupL (x_var 8) b.tuple) (x_tupL (x_sortF F2 (by decide) (Ky := tLnk) (kd := dLnk) (fun x hx => ⟨⟨x, lw x hx⟩, trivial, rfl, Sub.rfl'⟩) (fun x _ => isD_lnk x) (kinL_lnk _).k (fun x _ => Nat.le_trans (dt_lnk x).dep (by decide)) (x_var 3) b.sorted) b.tuple))) (show Sub (tSh (prOf ms hd ls)) (tEx (Srt (numsI ls)) fun ms => tSh (prOf ms hd ls)) from fun S v hv => ⟨ms, hms, hv⟩)
end Z
end

section
/-! T30: a lambda of one parameter, made and called. -/
namespace ZL
open PySem PySem.Spec L2 PyProof.Rows
/-- a lambda's function object -/
def FnO (f : Addr) (q : Str) (params : Arguments) (body : Expr) (scope : Scope) (c : Addr) : HO := .ext fun h => ∃ pm ctv : Value, h.get? f = some (PySem.W.kla_obj "<lambda>" q params body scope [] pm c ctv)
theorem clo_none {cells : List (Str × Addr)} : ∀ {ns : List (Str × NameKind)}, (∀ y ∈ ns, y.2 ≠ .free) → cloFrom cells ns [] = []
  | [], _ => rfl
  | (n, k) :: r, h => by
    have hk : (k == NameKind.free) = false := by
      have := h (n, k) (List.mem_cons_self ..)
      cases k <;> first | rfl | exact absurd rfl this
    show (if (k == NameKind.free) = true then _ else cloFrom cells r []) = []
    rw [hk, if_neg Bool.false_ne_true]
    exact clo_none fun y hy => h y (List.mem_cons_of_mem _ hy)
/-- how a table moves -/
inductive Moved (P : Addr) (q : Str) (H : Hp) : Hp → Prop where
  | same : Moved P q H H
  | more (ps ms : Array Value) (c : Addr) : H P = some (.tbl ps) → H c = none → LamX.TabS (upd (upd H P (.tbl (ps ++ ms))) c (LamX.CodeO c q)) P q → Moved P q H (upd (upd H P (.tbl (ps ++ ms))) c (LamX.CodeO c q))
section
variable {X : Cx} {params : Arguments} {body : Expr} {scope : Scope} {lpos : Pos}
def tNew (P : Addr) (q : Str) (params : Arguments) (body : Expr) (scope : Scope) : TE := fun σ H Q => LamX.TabS H P q ∧ ∀ f c H1, Moved P q H H1 → H1 f = none → H1 c = some (LamX.CodeO c q) → Q (.ref f) (upd H1 f (FnO f q params body scope c))
theorem inv_fn {pins : List (Addr × Obj)} {σ : L2.St} {H : Hp} {s : Shared} {f c : Addr} {q : Str} {pm ctv : Value} (I : Inv X pins σ H s) (fp : FpOk X pins H f) (e : s.heap.get? f = some (PySem.W.kla_obj "<lambda>" q params body scope [] pm c ctv)) : Inv X pins σ (upd H f (FnO f q params body scope c)) s :=
  I.take (h' := s.heap) (t' := s.toks) (it := f) (fun _ _ _ z => z) fp ⟨⟨pm, ctv, e⟩, ⟨_, e⟩, fun h1 h2 ⟨a, b, z⟩ st => ⟨a, b, st _ z⟩⟩
theorem pe_new {c P : Addr} {q : Str} (TB : LamX.TabB X.base X.mg c P) (hc : X.env.code = .ref c) (hq : X.env.qual ++ "<lambda>" = q) (hfr : ∀ y ∈ scope.names, y.2 ≠ .free) (hdef : defaultsOf params X.env = ([], [])) : PE X (.Lambda params body scope lpos) (tNew P q params body scope) := by
  refine ⟨fun pins s σ H Q I ⟨hT, hQ⟩ => ?_⟩
  have cl : closureFor scope X.env = pure [] := by
    rw [closure_ok fun y hy e => absurd e (hfr y hy), clo_none hfr]
  obtain ⟨ps, hP, ht, ha⟩ := hT
  have oP : s.heap.get? P = some { cls := .none, data := .fields ps } := I.hok P _ hP
  refine PySem.W.kla_eval hdef ?_
  rw [hq]
  cases hk : codeAmong lpos ps.toList with
  | some v =>
    obtain ⟨c1, rfl, hc1⟩ := ha lpos v hk
    refine PySem.W.kla_makeFunctionHit (ps := ps) (P := P) (c := c) (mg := X.mg) cl I.ok.glob (I.mod.glob.keeps I.bk) hc (TB.code.keeps I.bk) oP ht hk (TB.bm.keeps I.bk) fun ctv h1 tk k1 k2 => ?_
    have I1 : Inv X pins σ H { s with heap := h1.push (PySem.W.kla_obj "<lambda>" q params body scope [] ((X.mg "__name__").getD .none) c1 ctv), toks := tk } := I.kept fun b o e => Heap.get?_push_of_some _ (k1 b o e)
    have n1 : H h1.objs.size = none := I.hok.fresh k2
    have I2 := inv_fn I1 (I.fpOk k2 n1) (Heap.get?_push_size _ rfl)
    exact ⟨.ref h1.objs.size, _, I2, rfl, hQ _ _ _ .same n1 hc1⟩
  | none =>
    refine PySem.W.kla_makeFunction (ps := ps) (P := P) (c := c) (mg := X.mg) cl I.ok.glob (I.mod.glob.keeps I.bk) hc (TB.code.keeps I.bk) oP ht hk TB.gP (TB.bm.keeps I.bk) fun c1 ctv h1 tk k1 k2 k3 k4 k5 => ?_
    obtain ⟨c2, oc, vs, t, e2, m1, m2, m3⟩ := k4
    cases e2
    have k6 : s.heap.objs.size ≤ h1.objs.size := Nat.le_of_lt (Nat.lt_of_le_of_lt k2 k3)
    have nc : H c1 = none := I.hok.fresh k2
    have I1 := LamX.inv_table (q := q) (c := c1) (t' := tk) (more := #[rawInt lpos.line, rawInt lpos.col, .ref c1]) (h' := h1.push (PySem.W.kla_obj "<lambda>" q params body scope [] ((X.mg "__name__").getD .none) c1 ctv)) I hP
      (fun b o hb e => Heap.get?_push_of_some _ (k1 b o hb e)) (Heap.get?_push_of_some _ k5) k2 ⟨oc, vs, t, Heap.get?_push_of_some _ m1, m2, m3⟩
    have tb : LamX.TabS (upd (upd H P (.tbl (ps ++ #[rawInt lpos.line, rawInt lpos.col, .ref c1]))) c1 (LamX.CodeO c1 q)) P q := by
      have el : (ps ++ #[rawInt lpos.line, rawInt lpos.col, Value.ref c1]).toList = ps.toList ++ [rawInt lpos.line, rawInt lpos.col, .ref c1] := by simp
      refine ⟨_, (upd_ne (ne_of_none hP nc)).trans upd_same, by rw [el]; exact PySem.TriplesOk_snoc _ _ _ _ ht, fun p v hv => ?_⟩
      rw [el] at hv
      rcases LamX.among_app ps.toList ht hv with z | z
      · obtain ⟨c0, z1, z2⟩ := ha p v z
        refine ⟨c0, z1, ?_⟩
        rw [upd_ne (ne_of_none z2 nc), upd_ne (fun w => ?_)]
        · exact z2
        · rw [w, hP] at z2
          exact LamX.codeO_ne ps (Option.some.inj z2).symm
      · exact ⟨c1, z, upd_same⟩
    have n0 : H h1.objs.size = none := I.hok.fresh k6
    have n1 : upd (upd H P (.tbl (ps ++ #[rawInt lpos.line, rawInt lpos.col, .ref c1]))) c1 (LamX.CodeO c1 q) h1.objs.size = none := by
      rw [upd_ne (Nat.ne_of_gt k3), upd_ne fun w => ?_]
      · exact n0
      · rw [w, hP] at n0; cases n0
    have I2 := inv_fn I1 (I.fpOk k6 n1) (Heap.get?_push_size _ rfl)
    exact ⟨.ref h1.objs.size, _, I2, rfl, hQ _ _ _ (.more ps _ c1 hP nc tb) n1 upd_same⟩
/-- the lambda, called with one thing -/
theorem kprom_lam {f c : Addr} {q : Str} {N ps : List Str} {k : Nat} {tb : TE} (S : FnScope N ps scope) (h1 : ps.length = 1) (hb : ∀ (pm ctv u : Value), bindArgs (PySem.W.kla_fn "<lambda>" q params body scope [] pm (.ref c) ctv) ⟨[u], []⟩ = pure (ps.zip [u])) (hr : Room (k + 1) X.A)
    (hbody : ∀ (A : Around) (outer : List Env) (s : Shared) (H : Hp), Room k (A.deeper (envOfC q scope s.heap.objs.size f (.ref c))) → PE (cxOf CX0 X.prog X.w X.K X.mg X.base N q scope f (.ref c) A outer s H E0).nox body tb) :
    KProm X X.A.in1.in1 (.ref f) fun w H Q => H f = some (FnO f q params body scope c) ∧ H c = some (LamX.CodeO c q) ∧ tb (L2.start N [w]) H Q := by
  intro pins s σ H w u Q I r ⟨hf, hc, ht⟩
  have rv : Vals [w] [u] := .cons r .nil
  have room : Room k X.A.in1.in1 := ⟨hr.hd, by have := hr.dp; show X.A.depth + 3 * k + 5 < _; omega, by have := hr.un; show X.A.units + 1 + 1 + 16 * k + 200 < _; omega⟩
  have e0 := I.env0.in1.in1
  obtain ⟨⟨pm, ctv, of⟩, _, _⟩ := I.hok f _ hf
  obtain ⟨⟨oc, vs, t, m1, m2, m3⟩, _, _⟩ := I.hok c _ hc
  have lim : s.heap.NoLimit := e0.mod.nolimit.keeps fun b o e => (e0.bs b o e).1
  have hkind : ∀ y ∈ ps.zip [u], scope.names.lookup y.1 = some .local ∨ (scope.names.lookup y.1 = some .cell ∧ ((cellsFrom (s.heap.objs.size + 1) scope.names []).lookup y.1).isSome = true) := fun ⟨n, v⟩ hy => by
    rcases S.par n (List.of_mem_zip hy).1 with z | z
    · exact .inl z
    · exact .inr ⟨z, PySem.W.cellsFrom_some _ _ _ (.inl z)⟩
  have run : codeAny (model X.prog X.w) X.A.in1.in1 (.call (.ref f) ⟨[u], []⟩) (CR CX0 X.stack X.prog X.w H s Q E0) s := by
    refine PySem.W.kla_callFunE room.depth of rfl S.co S.gen rfl ⟨c, oc, vs, t, rfl, m1, m2, m3⟩ ?_
    rw [hb]
    refine wpAny_pure (wpAny_newFunctionEnv_cells S.kind hkind fun env he s1 x => ?_)
    subst he
    refine ⟨lim.keeps x.toInCall.keep, PySem.W.kla_codeExpr ?_⟩
    have J : Inv (cxOf CX0 X.prog X.w X.K X.mg X.base N q scope f (.ref c) X.A.in1.in1 X.stack s H E0) [] (L2.start N [w]) H s1 := inv_start S room.hd e0 h1.symm rv x
    refine wpAny_mono (((hbody X.A.in1.in1 X.stack s H ⟨hr.hd, by have := hr.dp; show X.A.depth + 1 + 3 * k + 5 < _; omega, by have := hr.un; show X.A.units + 1 + 1 + 3 + 16 * k + 200 < _; omega⟩).nox).run [] s1 _ H Q J ht) (fun v s' hq => ?_) fun e s' hs => hs
    obtain ⟨z, H', J', rz, qz⟩ := hq
    exact ⟨z, H', J'.os, J'.bare, J'.base, J'.hok, rz, qz⟩
  refine wpAny_call (codeAny_mono run fun r s' hq => ?_)
  cases r with
  | error e => exact hq.elim
  | ok fl =>
    cases fl with
    | ret u => exact I.after hq
    | next => exact False.elim hq
    | brk => exact False.elim hq
    | cont => exact False.elim hq
end
end ZL
end

section
/-! T31: the order of rows, by either key. -/
namespace Z
open PySem PySem.Spec L2 PySem.W ZL PyProof.Rows
theorem kin_cons {x y : PyData} (h : kin x y = true) (xs ys : List PyData) : PyProof.Rows.lexLt itemOrd (keyToksAll (x :: xs)) (keyToksAll (y :: ys)) = if PyData.eqv x y = true then PyProof.Rows.lexLt itemOrd (keyToksAll xs) (keyToksAll ys) else dataLt x y := by
  rw [toks_all_cons, toks_all_cons]
  refine (lex_self (O := itemOrd) _ _ _).trans ?_
  cases e : PyData.eqv x y with
  | true => rw [if_pos rfl, toks_same x y e]; exact lex_pre _ _ _
  | false => rw [if_neg Bool.false_ne_true]; exact kin_toks x y h e _ _
def vLt (v w : Vl) : Bool := match v.1, w.1 with
  | .inl i, .inl j => decide (i < j)
  | .inl _, .inr _ => true
  | .inr _, .inl _ => false
  | .inr s, .inr t => decide (s.cps.toList < t.cps.toList)
def rLt : Row → Row → Bool
  | [], [] => false
  | [], _ :: _ => true
  | _ :: _, [] => false
  | x :: xs, y :: ys => if x = y then rLt xs ys else vLt x y
theorem lt_map {α : Type} [DecidableEq α] {d : α → PyData} {lt : α → α → Bool} {rl : List α → List α → Bool} (h0 : rl [] [] = false) (h1 : ∀ y ys, rl [] (y :: ys) = true) (h2 : ∀ x xs, rl (x :: xs) [] = false) (h3 : ∀ x xs y ys, rl (x :: xs) (y :: ys) = if x = y then rl xs ys else lt x y)
    (hk : ∀ x y, kin (d x) (d y) = true) (he : ∀ x y, PyData.eqv (d x) (d y) = decide (x = y)) (hl : ∀ x y, x ≠ y → dataLt (d x) (d y) = lt x y) : ∀ xs ys : List α, PyProof.Rows.lexLt itemOrd (keyToksAll (xs.map d)) (keyToksAll (ys.map d)) = rl xs ys
  | [], [] => by rw [h0]; rfl
  | [], y :: ys => by
    rw [h1, List.map_cons, toks_all_cons]
    rfl
  | x :: xs, [] => by
    rw [h2, List.map_cons, toks_all_cons]
    rfl
  | x :: xs, y :: ys => by
    rw [h3, List.map_cons, List.map_cons, kin_cons (hk x y), he]
    by_cases e : x = y
    · rw [if_pos e, decide_eq_true e, if_pos rfl]; exact lt_map h0 h1 h2 h3 hk he hl xs ys
    · rw [if_neg e, decide_eq_false e, if_neg Bool.false_ne_true]; exact hl x y e
theorem lex3 {a b c a' b' c' : PyData} (h1 : kin a a' = true) (h2 : kin b b' = true) (h3 : kin c c' = true) : dataLt (.tuple [a, b, c]) (.tuple [a', b', c']) = if PyData.eqv a a' = true then (if PyData.eqv b b' = true then (if PyData.eqv c c' = true then false else dataLt c c') else dataLt b b') else dataLt a a' := by
  rw [dataLt_tuple, kin_cons h1, kin_cons h2, kin_cons h3]
  rfl
theorem lt_vk (v w : Vl) (h : v ≠ w) : dataLt (dVk v) (dVk w) = vLt v w := by
  obtain ⟨v, hv⟩ := v
  obtain ⟨w, hw⟩ := w
  cases v with
  | inl i => cases w with
    | inl j =>
      have hne : i ≠ j := fun e => h (by subst e; rfl)
      show dataLt (.tuple [.int 0, .int i, .str ""]) (.tuple [.int 0, .int j, .str ""]) = decide (i < j)
      rw [lex3 rfl rfl rfl, if_pos (show PyData.eqv (.int 0) (.int 0) = true from rfl), if_neg (show ¬ PyData.eqv (.int i) (.int j) = true from fun z => hne (by simpa using (show (i == j) = true from z))), dataLt_int]
    | inr t =>
      show dataLt (.tuple [.int 0, .int i, .str ""]) (.tuple [.int 1, .int 0, .str t]) = true
      rw [lex3 rfl rfl rfl, if_neg (by show ¬ ((_ : Int) == _) = true; decide), dataLt_int]; rfl
  | inr s => cases w with
    | inl j =>
      show dataLt (.tuple [.int 1, .int 0, .str s]) (.tuple [.int 0, .int j, .str ""]) = false
      rw [lex3 rfl rfl rfl, if_neg (by show ¬ ((_ : Int) == _) = true; decide), dataLt_int]; rfl
    | inr t =>
      have hne : s ≠ t := fun e => h (by subst e; rfl)
      show dataLt (.tuple [.int 1, .int 0, .str s]) (.tuple [.int 1, .int 0, .str t]) = decide (s.cps.toList < t.cps.toList)
      rw [lex3 rfl rfl rfl, if_pos (show PyData.eqv (.int 1) (.int 1) = true from rfl), if_pos (show PyData.eqv (.int 0) (.int 0) = true from rfl), if_neg (show ¬ PyData.eqv (.str s) (.str t) = true from fun z => hne (by simpa using (show (s == t) = true from z))), dataLt_str]
theorem lt_rk (r s : Row) : dataLt (dRk r) (dRk s) = rLt r s := by
  unfold dRk
  rw [dataLt_list]
  exact lt_map rfl (fun _ _ => rfl) (fun _ _ => rfl) (fun _ _ _ _ => rfl) kin_vk eqv_vk lt_vk r s
/-! the law's own key -/
def dSv (v : Vl) : PyData := .tuple [.bool (isT v.1), dKy v.1]
def tSv (v : Vl) : Ty := tTu [tBl (isT v.1), tVl v]
def dSk (r : Row) : PyData := .list (r.map dSv)
def tSk (r : Row) : Ty := tLs (r.map tSv)
theorem isD_sv (v : Vl) : isD (tSv v) (dSv v) := isD_tu ⟨isD_bl, isD_ky v.1, trivial⟩
theorem isD_sk (r : Row) : isD (tSk r) (dSk r) := isD_ls (isDs_map isD_sv r)
theorem dt_sv (v : Vl) : Dt (dSv v) 1 := dt_tup fun d hd => by
  rcases List.mem_cons.mp hd with rfl | hd
  · exact dt_bl
  rw [List.mem_singleton.mp hd]
  exact dt_ky (val_key v.2)
theorem dt_sk (r : Row) : Dt (dSk r) 2 := dt_lst fun d hd => by
  obtain ⟨v, _, rfl⟩ := List.mem_map.mp hd
  exact dt_sv v
theorem eqv_sv (v w : Vl) : PyData.eqv (dSv v) (dSv w) = decide (v = w) := by
  show PyData.eqv (.tuple [.bool (isT v.1), dKy v.1]) (.tuple [.bool (isT w.1), dKy w.1]) = _
  simp only [PyData.eqv, PyData.eqvAll, Bool.and_true]
  rw [eqv_ky]
  by_cases e : v = w
  · subst e; simp [PyData.eqv]
  · have e' : v.1 ≠ w.1 := fun z => e (Subtype.ext z)
    simp [e, e']
theorem kin_sv (v w : Vl) : kin (dSv v) (dSv w) = true := by
  obtain ⟨v, hv⟩ := v
  obtain ⟨w, hw⟩ := w
  cases v <;> cases w <;> simp [dSv, kin, kinAll, PyData.eqv, dKy, isT]
theorem kin_sk (r s : Row) : kin (dSk r) (dSk s) = true := by
  unfold dSk
  simp only [kin]
  exact kinAll_map (fun v w _ => kin_sv v w) r s
theorem kinL_sk (xs : List Row) : KinL (xs.map dSk) := ⟨fun d hd => by
  obtain ⟨r, _, rfl⟩ := List.mem_map.mp hd
  exact ⟨_, rfl⟩, fun d hd => by
  obtain ⟨r, _, rfl⟩ := List.mem_map.mp hd
  exact (dt_sk r).lay, fun d hd d' hd' => by
  obtain ⟨r, _, rfl⟩ := List.mem_map.mp hd
  obtain ⟨s, _, rfl⟩ := List.mem_map.mp hd'
  exact kin_sk r s⟩
theorem lt_sv (v w : Vl) (h : v ≠ w) : dataLt (dSv v) (dSv w) = vLt v w := by
  obtain ⟨v, hv⟩ := v
  obtain ⟨w, hw⟩ := w
  have nil2 : PyProof.Rows.lexLt itemOrd (keyToksAll []) (keyToksAll []) = false := rfl
  cases v with
  | inl i => cases w with
    | inl j =>
      have hne : i ≠ j := fun e => h (by subst e; rfl)
      show dataLt (.tuple [.bool false, .int i]) (.tuple [.bool false, .int j]) = decide (i < j)
      rw [dataLt_tuple, kin_cons rfl, if_pos (show PyData.eqv (.bool false) (.bool false) = true from rfl), kin_cons rfl, if_neg (show ¬ PyData.eqv (.int i) (.int j) = true from fun z => hne (by simpa using (show (i == j) = true from z))), dataLt_int]
    | inr t =>
      show dataLt (.tuple [.bool false, .int i]) (.tuple [.bool true, .str t]) = true
      rw [dataLt_tuple, kin_cons rfl, if_neg (by show ¬ ((_ : Bool) == _) = true; decide), dataLt_bool]; rfl
  | inr s => cases w with
    | inl j =>
      show dataLt (.tuple [.bool true, .str s]) (.tuple [.bool false, .int j]) = false
      rw [dataLt_tuple, kin_cons rfl, if_neg (by show ¬ ((_ : Bool) == _) = true; decide), dataLt_bool]; rfl
    | inr t =>
      have hne : s ≠ t := fun e => h (by subst e; rfl)
      show dataLt (.tuple [.bool true, .str s]) (.tuple [.bool true, .str t]) = decide (s.cps.toList < t.cps.toList)
      rw [dataLt_tuple, kin_cons rfl, if_pos (show PyData.eqv (.bool true) (.bool true) = true from rfl), kin_cons rfl, if_neg (show ¬ PyData.eqv (.str s) (.str t) = true from fun z => hne (by simpa using (show (s == t) = true from z))), dataLt_str]
theorem lt_sk (r s : Row) : dataLt (dSk r) (dSk s) = rLt r s := by
  unfold dSk
  rw [dataLt_list]
  exact lt_map rfl (fun _ _ => rfl) (fun _ _ => rfl) (fun _ _ _ _ => rfl) kin_sv eqv_sv lt_sv r s
theorem vLt_tri {v w : Vl} (h1 : vLt v w = false) (h2 : vLt w v = false) : v = w := by
  obtain ⟨v, hv⟩ := v
  obtain ⟨w, hw⟩ := w
  apply Subtype.ext
  cases v with
  | inl i => cases w with
    | inl j =>
      have h1 : ¬ i < j := of_decide_eq_false h1
      have h2 : ¬ j < i := of_decide_eq_false h2
      show (Sum.inl i : Key) = .inl j
      rw [show i = j by omega]
    | inr t => cases h1
  | inr s => cases w with
    | inl j => cases h2
    | inr t =>
      have h1 : ¬ s.cps.toList < t.cps.toList := of_decide_eq_false h1
      have h2 : ¬ t.cps.toList < s.cps.toList := of_decide_eq_false h2
      have e := List.le_antisymm (List.not_lt.mp h2) (List.not_lt.mp h1)
      have e2 : s.cps = t.cps := by rw [← Array.toArray_toList (xs := s.cps), e]
      show (Sum.inr s : Key) = .inr t
      cases s; cases t
      cases e2
      rfl
theorem rLt_tri : ∀ {r s : Row}, rLt r s = false → rLt s r = false → r = s
  | [], [], _, _ => rfl
  | [], _ :: _, h, _ => by cases h
  | _ :: _, [], _, h => by cases h
  | x :: xs, y :: ys, h1, h2 => by
    by_cases e : x = y
    · subst e
      unfold rLt at h1 h2
      rw [if_pos rfl] at h1 h2
      rw [rLt_tri h1 h2]
    · unfold rLt at h1 h2
      rw [if_neg e] at h1
      rw [if_neg fun z => e z.symm] at h2
      exact absurd (vLt_tri h1 h2) e
/-- rows sorted by the law's key rise -/
theorem up_sorted {rs : List Row} (hn : rs.Nodup) : Up (rs.mergeSort (dLe dSk)) := by
  have tl : TotalLe (dLe dSk) := sortLe_total _ _ _
  have hs : (rs.mergeSort (dLe dSk)).Pairwise fun a b => dLe dSk a b = true := List.pairwise_mergeSort tl.trans (fun a b => by
    have := tl.total a b
    simpa using this) rs
  have hn2 : (rs.mergeSort (dLe dSk)).Nodup := (List.mergeSort_perm _ _).nodup_iff.mpr hn
  have both := hs.and hn2
  refine both.imp fun {a b} ⟨h1, h2⟩ => ?_
  have h1 : (!dataLt (dSk b) (dSk a)) = true := h1
  rw [lt_sk] at h1
  rw [lt_rk]
  cases e : rLt a b with
  | true => rfl
  | false => exact absurd (rLt_tri e (by simpa using h1)) h2
end Z
end

section
/-! T32: modes with a table of code objects; sorted by a lambda. -/
namespace Z
open PySem PySem.Spec L2 PySem.W ZL
variable {g : Gc}
structure IsTb (P : Addr) (q : Str) (M : Md) : Prop where
  ch : M.ch P
  code : ∀ {S H : Hp} {c : Addr} {r : Str}, M.inv S H → H c = some (LamX.CodeO c r) → ¬ M.ch c
  get : ∀ {S H : Hp}, M.inv S H → S P = none ∧ LamX.TabS H P q
  put : ∀ {S H : Hp} {ps ms : Array Value} {c : Addr}, M.inv S H → H P = some (.tbl ps) → H c = none → LamX.TabS (upd (upd H P (.tbl (ps ++ ms))) c (LamX.CodeO c q)) P q → M.inv S (upd (upd H P (.tbl (ps ++ ms))) c (LamX.CodeO c q))
theorem IsTb.dom {P : Addr} {q : Str} {M : Md} {d : Addr → Prop} (h : IsTb P q M) : IsTb P q { M with dom := d } := ⟨h.ch, h.code, h.get, h.put⟩
theorem code_lst {c : Addr} {q : Str} {xs : List V} : LamX.CodeO c q ≠ .lst xs := fun z => by
  unfold LamX.CodeO at z
  cases z
theorem tabS_old {H H' : Hp} {P : Addr} {q : Str} (h : LamX.TabS H P q) (k1 : ∀ ps, H P = some (.tbl ps) → H' P = some (.tbl ps)) (k2 : ∀ c, H c = some (LamX.CodeO c q) → H' c = some (LamX.CodeO c q)) : LamX.TabS H' P q := by
  obtain ⟨ps, h1, h2, h3⟩ := h
  refine ⟨ps, k1 _ h1, h2, fun pos cv hc => ?_⟩
  obtain ⟨c, e1, e2⟩ := h3 pos cv hc
  exact ⟨c, e1, k2 _ e2⟩
/-- the law's mode: its state, a table -/
def stM2 (a sc P : Addr) (q : Str) : Md where
  dom := no
  ch := fun b => b = a ∨ b = P
  inv := fun S H => (S a = none ∧ ∃ c gr mx : Int, (0 ≤ mx ∧ mx < PM) ∧ H a = some (stO sc c gr mx)) ∧ S P = none ∧ LamX.TabS H P q
  al := fun {S H b} ⟨h, _, k⟩ e => by
    rcases e with rfl | rfl
    · obtain ⟨_, c, gr, mx, _, h⟩ := h
      exact ⟨_, h⟩
    · obtain ⟨ps, k, _⟩ := k
      exact ⟨_, k⟩
  stab := fun {S H S' H'} k kc ⟨h, hs, ht⟩ => by
    obtain ⟨h0, c, gr, mx, h1, h2⟩ := h
    obtain ⟨k1, k2⟩ := k a _ (.inl rfl) h2
    refine ⟨⟨by rw [k2 trivial]; exact h0, c, gr, mx, h1, k1⟩, ?_, tabS_old ht (fun ps e => (k P _ (.inr rfl) e).1) fun c e => kc c q e⟩
    obtain ⟨ps, e, _⟩ := ht
    rw [(k P _ (.inr rfl) e).2 trivial]
    exact hs
theorem isSt2 {a sc P : Addr} {q : Str} {d : Addr → Prop} : IsSt a sc { stM2 a sc P q with dom := d } where
  ch := .inl rfl
  get := fun h => h.1
  put := fun {S H c gr mx} ⟨h, hs, ht⟩ k => ⟨⟨h.1, c, gr, mx, k, upd_same⟩, hs, by
    obtain ⟨_, c0, gr0, mx0, _, ha⟩ := h
    refine tabS_old ht (fun ps e => ?_) fun c e => ?_
    · rw [upd_ne fun z => ?_]
      · exact e
      · rw [z, ha] at e; cases e
    · rw [upd_ne fun z => ?_]
      · exact e
      · rw [z, ha] at e
        exact code_lst (Option.some.inj e).symm⟩
theorem isTb2 {a sc P : Addr} {q : Str} {d : Addr → Prop} : IsTb P q { stM2 a sc P q with dom := d } where
  ch := .inr rfl
  code := fun {S H c r} ⟨h, hs, ht⟩ e z => by
    rcases z with rfl | rfl
    · obtain ⟨_, c0, gr0, mx0, _, ha⟩ := h
      rw [ha] at e
      exact code_lst (Option.some.inj e).symm
    · obtain ⟨ps, k, _⟩ := ht
      rw [k] at e
      exact LamX.codeO_ne _ (Option.some.inj e).symm
  get := fun h => h.2
  put := fun {S H ps ms c} ⟨h, hs, ht⟩ e n k => ⟨⟨h.1, by
    obtain ⟨_, c0, gr0, mx0, m, ha⟩ := h
    refine ⟨c0, gr0, mx0, m, ?_⟩
    rw [upd_ne (ne_of_none ha n), upd_ne fun z => ?_]
    · exact ha
    · rw [z, e] at ha; cases ha⟩, hs, k⟩
theorem moved_post {P : Addr} {q : Str} {M : Md} {S H H1 : Hp} (hM : IsTb P q M) (ex : Ex S H) (iv : M.inv S H) (m : Moved P q H H1) : Post M S H S H1 := by
  cases m with
  | same => exact ⟨Gr.refl ex, iv⟩
  | more ps ms c e n t =>
    have sP := (hM.get iv).1
    refine ⟨⟨Ex.rfl', fun a u z => ?_, fun a u z nc => ?_, fun _ _ _ _ => rfl, fun a u z => ?_⟩, hM.put iv e n t⟩
    · rw [upd_ne (ne_of_none (ex a u z) n), upd_ne (ne_of_none z sP)]
      exact ex a u z
    · rw [upd_ne (ne_of_none z n), upd_ne fun w => nc (by rw [w]; exact hM.ch)]
      exact z
    · by_cases w : a = P
      · subst w
        exact ⟨.tbl (ps ++ ms), by rw [upd_ne (ne_of_none e n), upd_same], fun _ => trivial⟩
      · exact ⟨u, by rw [upd_ne (ne_of_none z n), upd_ne w]; exact z, id⟩
/-- the code object of a def, its table -/
structure LamC (g : Gc) (c P : Addr) : Prop where
  tb : LamX.TabB g.base g.mg c P
structure DfC (g : Gc) (x : Str) (st : Stmt) (c : Addr) : Prop where
  ex : ∃ (f : Addr) (oc : Value) (od : Option Addr) (dV kV doc pm : Value) (an : Option Addr) (ct : Value) (osl : Array (Option Value)), g.K.lookup f = some ⟨oc, od, .func (PySem.W.fnOf x x (defArgs st) (defBody st) (defScope st) dV kV doc pm an (.ref c) ct), osl⟩ ∧ PySem.W.codeIn g.K (.ref c) x = true ∧
    FunD g.K x x (defArgs st) (defBody st) (defScope st) [] [] f (PySem.W.fnOf x x (defArgs st) (defBody st) (defScope st) dV kV doc pm an (.ref c) ct) ∧ g.mg x = some (.ref f)
section
variable {l : Lc} {M : Md} {B S_0 H_0 : Hp} {G : List Slot} {pos p kpos lpos : Pos} {a e : Expr} {t u : Ty} {ts : List Ty} {rest : List Stmt} {pre mid : Pred} {D : Ends} {X : Cx}
theorem fn_mkC {x : Str} {st : Stmt} {c : Addr} {N ps : List Str} {k : Nat} {ι : Type} {mo : ι → Md → Prop} {as : ι → List Ty} {r : ι → Ty} (F : DfC g x st c) (S : FnScope N ps (defScope st)) (hl : ∀ i, (as i).length = ps.length) (hN : ps.length ≤ N.length)
    (hb : ∀ (kV doc pm : Value) (an : Option Addr) (cdv ct : Value) (us : List Value), us.length = ps.length → bindArgs (PySem.W.fnOf x x (defArgs st) (defBody st) (defScope st) .none kV doc pm an cdv ct) ⟨us, []⟩ = pure (ps.zip us))
    (hmo : ∀ i M d, mo i M → mo i { M with dom := d })
    (body : ∀ (i : ι) (M : Md) (S_0 H_0 : Hp), mo i M → ∀ X, At g ⟨N, defScope st, k, fun _ => true⟩ X → X.env.code = .ref c → X.env.qual = x ++ ".<locals>." → PSs X (defBody st) (tS (Ct M S_0 S_0 H_0 ((as i).map Slot.ty ++ List.replicate (N.length - (as i).length) .unk)) (Dr M S_0 H_0 (r i)))) : Fn g x (k + 1) (Spc mo as r) := by
  obtain ⟨f, oc, od, dV, kV, doc, pm, an, ct, osl, lk, hcd, FD, hm⟩ := F.ex
  refine ⟨f, _, ps, fn_of lk hcd S (fun vs H Q E h => ?_) (fun A outer s H vs Q E hr h => ?_), hm, FD.kp, FD.bindsN hb⟩
  · obtain ⟨M, i, S1, h1, h2, h3, h4, h5⟩ := h
    rw [← hl i, h4.len]
  · obtain ⟨M, i, S1, h1, h2, h3, h4, h5⟩ := h
    have b := body i { M with dom := fun a => H a ≠ none } S1 H (hmo i M _ h1) (cxOf CX0 g.P g.w g.K g.mg g.base N x (defScope st) f (.ref c) A outer s H E).nox ⟨rfl, rfl, rfl, rfl, rfl, rfl, rfl, hr, rfl, S.nd, fun _ _ => rfl, rfl, S.kind⟩ rfl rfl
    refine ⟨_, b.nox, ⟨S1, Ex.rfl', ⟨Gr.refl h2, fun a => Iff.rfl⟩, h3, env_start h4 (by rw [hl i]; exact hN)⟩, ⟨fun σ H' ⟨S2, k1, k2, k3⟩ => h5 _ S2 H' ⟨k1, k2⟩ k3, fun v H' ⟨S2, k1, k2, k3⟩ => h5 v S2 H' ⟨k1, k2⟩ k3, fun _ _ z => z, fun _ _ z => z⟩⟩
theorem fb_cons {st : Stmt} (h : PS X st (tS pre { D with nx := mid })) (k : PSs X rest (tS mid D)) : PSs X (st :: rest) (tS pre D) := convB (pss_cons h k) fun D' σ H ⟨p, le⟩ => ⟨p, fun σ H m => ⟨m, le⟩, le.rt, le.bk, le.ct⟩
theorem fb_ex {ι : Type} {pr : ι → Pred} (h : ∀ i, PSs X rest (tS (pr i) D)) : PSs X rest (tS (fun σ H => ∃ i, pr i σ H) D) := ⟨fun pins s σ H D' I ⟨⟨i, p⟩, le⟩ => (h i).run pins s σ H D' I ⟨p, le⟩⟩
theorem fb_pre {pre' : Pred} (h : PSs X rest (tS pre D)) (k : ∀ σ H, pre' σ H → pre σ H) : PSs X rest (tS pre' D) := convB h fun D' σ H ⟨p, le⟩ => ⟨k σ H p, le⟩
theorem fb_own {ι : Type} {q : ι → Prop} {c : ι → Cell} (A : At g l X) (i : Nat) {x : Str} (he : XF g l M G e q c) (k : ∀ j p, q j → PSs X rest (tS (Ct M B S_0 H_0 (G.set i (.own p (c j)))) D)) (hN : l.N[i]? = some x := by rfl) (hx : Loc l.sc x := by first | exact Or.inl rfl | exact Or.inr rfl) (hf : l.fn x = true ∨ l.sc.names.lookup x = some .local := by first | exact Or.inl rfl | exact Or.inr rfl)
    (hs : ∀ env, swapsWith e (some (.Name x p)) pos.line env = pure false := by intro _; rfl) : PSs X (.Assign [.Name x p] e pos :: rest) (tS (Ct M B S_0 H_0 G) D) :=
  fb_cons (mid := fun σ H => ∃ jp : { jp : ι × Addr // q jp.1 }, Ct M B S_0 H_0 (G.set i (.own jp.1.2 (c jp.1.1))) σ H)
    (convS (ps_set (by rw [A.N]; exact A.nd) (by rw [A.N]; exact hN) (A.loc hx) (he X A) (hs _) (A.sto hf)) fun D' σ H ⟨ct, le⟩ => tF_asg (N := D'.nx) ct fun j p σ H hj ct' => le.nx _ _ ⟨⟨(j, p), hj⟩, ct'⟩) (fb_ex fun jp => k jp.1.1 jp.1.2 jp.2)
theorem fb_ret (he : PE X e (tE M G t)) (hD : ∀ v H, Rt M S_0 H_0 t v H → D.rt v H := by exact fun _ _ h => h) : PSs X [.Return (some e) pos] (tS (Ct M B S_0 H_0 G) D) := pss_one (convS (ps_ret he) fun D' σ H ⟨c, le⟩ => by
  obtain ⟨S, c1, c2, pr⟩ := c.get
  exact tE.step pr fun v S1 H1 q1 p1 hv => le.rt _ _ (hD _ _ ⟨S1, (c2.trans q1.1).gr, q1.2, hv⟩))
theorem fb_frz {c : Cell} (i : Nat) {p : Addr} (hG : G[i]? = some (.own p c) := by rfl) (k : PSs X rest (tS (Ct M B S_0 H_0 (G.set i (.ty c.ty))) D)) : PSs X rest (tS (Ct M B S_0 H_0 G) D) := fb_pre k fun σ H ct => by
  obtain ⟨S, c1, c2, pr⟩ := ct.get
  obtain ⟨o, s1, s2, s3, s4, s5, _, s6⟩ := frz_env pr hG
  obtain ⟨x, _, _, m3, m4, _⟩ := pr.2.2.at_ i _ hG
  have hp : H_0 p = none := by
    cases e : H_0 p with
    | none => rfl
    | some u => exact absurd ((c2.dm p).mpr (by rw [e]; exact fun z => nomatch z)) m3.2
  exact .of (c1.comp s6) ⟨c2.gr.freeze hp s1 s3, c2.dm⟩ s5
/-- tuple(a list) -/
theorem f_tupL (A : At g l X) (h : PE X a (tE M G (tLs ts))) (hm : g.mg "tuple" = none) (hg : l.sc.names.lookup ("tuple" : Str) = some .globalImplicit := by rfl) (hs : ∀ env, starEach [a] env = (false, eval a env) :: starEach [] env := by intro _; rfl) (hpl : ∀ env, (backTo pos (starEach [] env)).any (·.1) = false := by intro _; rfl) : PE X (.Call (.Name "tuple" p) [a] [] pos) (tE M G (tTu ts)) :=
  conv (pe_callTy (call_tuple_of (X := X)) (A.gl hg) (by rw [A.mg]; exact hm) boot_tuple' (pa_cons h pa_nil (hs _)) (by decide) (by decide) (hs _) (hpl _)) fun σ H Q ⟨S, pr, q⟩ => tE.step pr fun v S1 H1 q1 p1 h1 => by
    obtain ⟨d, ws, rfl, h2, h3⟩ := h1
    refine ⟨d, ws, rfl, .inl ⟨SqL.of (p1.1 _ _ h2), fun w hw => ?_⟩⟩
    have gr := Gr.new (o := .tup ws) p1.1 hw
    exact q _ _ _ (q1.trans (Post.of p1.2.1 gr)) ⟨w, ws, rfl, upd_same, h3.mono gr.ss⟩
/-- sorted(xs, key=lambda ..) -/
theorem f_sortL {α : Type} {xs : List α} {T Ky : α → Ty} {kd : α → PyData} {params : Arguments} {body : Expr} {scope : Scope} {c P : Addr} {q y : Str} {N : List Str} {k : Nat} (A : At g l X) (LC : LamC g c P) (hM : IsTb P q M) (hc : X.env.code = .ref c) (hq : X.env.qual ++ "<lambda>" = q) (hfr : ∀ z ∈ scope.names, z.2 ≠ .free) (hdef : ∀ env, defaultsOf params env = ([], []))
    (Sc : FnScope N [y] scope) (hNl : 1 ≤ N.length) (hb : ∀ (c : Addr) (pm ctv u : Value), bindArgs (PySem.W.kla_fn "<lambda>" q params body scope [] pm (.ref c) ctv) ⟨[u], []⟩ = pure ([y].zip [u])) (hk1 : k + 1 ≤ l.k)
    (hbody : ∀ x ∈ xs, XE g ⟨N, scope, k, fun _ => true⟩ M (.ty (T x) :: List.replicate (N.length - 1) .unk) body (Ky x)) (hD : ∀ x ∈ xs, isD (Ky x) (kd x)) (hk : KinK (xs.map kd)) (hd : ∀ x ∈ xs, (kd x).depth ≤ 60)
    (ha : XE g l M G a (tLs (xs.map T))) (hm : g.mg "sorted" = none) (hg : l.sc.names.lookup ("sorted" : Str) = some .globalImplicit := by rfl)
    (he : ∀ env, backTo pos (starEach [a] env) = (false, eval a env) :: backTo pos (starEach [] env) := by intro _; rfl) (hpl : ∀ env, (backTo pos (starEach [a] env)).any (·.1) = false := by intro _; rfl)
    (hall : ∀ env, (backToKw pos (keywordEach [⟨some "key", .Lambda params body scope lpos, kpos⟩] env)).all (·.1.isSome) = true := by intro _; rfl) (hnone : ∀ env, (backToKw pos (keywordEach [⟨some "key", .Lambda params body scope lpos, kpos⟩] env)).any (·.1.isNone) = false := by intro _; rfl) (hks : ∀ env, (backToKw pos (keywordEach [⟨some "key", .Lambda params body scope lpos, kpos⟩] env)).filterMap (·.1) = [Str.ofString "key"] := by intro _; rfl)
    (hs : ∀ env, starEach [a] env = (false, eval a env) :: starEach [] env := by intro _; rfl) :
    PE X (.Call (.Name "sorted" p) [a] [⟨some "key", .Lambda params body scope lpos, kpos⟩] pos) (tE M G (tLs ((xs.mergeSort (dLe kd)).map T))) := by
  have TB : LamX.TabB X.base X.mg c P := by rw [A.base, A.mg]; exact LC.tb
  refine conv (pe_callBK (cr_sortK (by have := A.room.un; omega)) (A.gl hg) (by rw [A.mg]; exact hm) boot_sorted' (xa_1 ha hs X A) (pk_cons (pe_new TB hc hq hfr (hdef _)) pk_nil) (by decide) (by decide) (he _) (hpl _) (hall _) (hnone _) (hks _)) fun σ H Q ⟨S, pr, Qk⟩ => tA.step pr fun vs S1 H1 q1 p1 h1 => ⟨(hM.get p1.2.1).2, fun f c' H2 mv hf hc2 => ?_⟩
  obtain ⟨v, rfl, d, ws, rfl, h3, h4⟩ := h1.one
  have q2 := moved_post hM p1.1 p1.2.1 mv
  have p2 := p1.next q2
  have gr := Gr.new (o := FnO f q params body scope c') p2.1 hf
  have q3 : Post M S1 H2 (upd S1 f (FnO f q params body scope c')) (upd H2 f (FnO f q params body scope c')) := Post.of p2.2.1 gr
  have p3 := p2.next q3
  have h3' := gr.ss _ _ h3
  have h4' := h4.mono gr.ss
  have lw : ws.length = xs.length := by rw [← h4.len, List.length_map]
  have nf : f ≠ c' := fun z => by rw [z, hc2] at hf; cases hf
  have cc : ¬ M.ch c' := hM.code p2.2.1 hc2
  have hc3 : upd H2 f (FnO f q params body scope c') c' = some (LamX.CodeO c' q) := by rw [upd_ne nf.symm]; exact hc2
  refine ⟨d, f, ws, _, fun i ks H' => ∃ S', Post M (upd S1 f (FnO f q params body scope c')) (upd H2 f (FnO f q params body scope c')) S' H' ∧ Tys S' ((xs.take i).map Ky) ks, rfl, rfl, kprom_lam (k := k) (ps := [y]) (N := N) (tb := fun σ H Q => ∃ x, x ∈ xs ∧ tE M (.ty (T x) :: List.replicate (N.length - 1) .unk) (Ky x) σ H Q) Sc rfl (hb c') (A.room.mono hk1) (fun A' outer s0 H0 hr => ?_), SqL.of (p3.1 _ _ h3'), ⟨fun i ks H' w hw ⟨S', q4, tk⟩ => ?_, fun ks H' ⟨S', q4, tk⟩ => ?_⟩, _, ⟨Gr.refl p3.1, p3.2.1⟩, .nil⟩
  · refine ⟨fun pins s σ H Q I ⟨x, hx, h⟩ => (hbody x hx (cxOf CX0 X.prog X.w X.K X.mg X.base N q scope f (.ref c') A' outer s0 H0 E0).nox ⟨A.prog, A.w, A.K, A.mg, A.base, rfl, rfl, hr, rfl, Sc.nd, fun _ _ => rfl, rfl, Sc.kind⟩).run pins s σ H Q I h⟩
  · obtain ⟨t, ht, hT⟩ := h4'.got hw
    obtain ⟨x, hx, hmem, rfl⟩ := map_get ht
    refine ⟨q4.1.sh _ _ (q4.1.ss _ _ upd_same), q4.1.hh _ _ hc3 cc, x, hmem, S', ⟨q4.1.sh, q4.2, ?_⟩, fun v S3 H3 q5 hv => ⟨S3, q4.trans q5, ?_⟩⟩
    · exact env_start (ts := [T x]) (.cons ((T x).mono q4.1.ss hT) .nil) hNl
    · rw [take_succ_get hx, List.map_append]
      exact (tk.mono q5.1.ss).snoc hv
  · rw [lw, List.take_length] at tk
    refine ⟨xs.map kd, ⟨isDs_all q4.1.sh (isDs_mapM hD) tk, hk, fun d hd' => ?_⟩, by rw [List.length_map, lw], fun p hp => ?_⟩
    · obtain ⟨x, hx, rfl⟩ := List.mem_map.mp hd'
      exact hd x hx
    · have gr2 := Gr.new (o := .lst (byKeys ws (xs.map kd))) q4.1.sh hp
      exact Qk _ _ _ (((q1.trans q2).trans q3).trans (q4.trans (Post.of q4.2 gr2))) ⟨p, _, rfl, upd_same, byKeys_tys (h4'.mono (q4.1.ss.comp gr2.ss))⟩
end
end Z
end

section
/-! T33: _law_sorted. -/
namespace Z
open PySem PySem.Spec L2 PySem.W ZL
variable {g : Gc}
instance (priority := 5000) decRow (v : Row) (u : List Row) : Decidable (v ∈ u) := @List.instDecidableMemOfLawfulBEq Row instBEqOfDecidableEq _ v u
def addR (f : List Row) (l : Row) : List Row := if l ∈ f then f else f ++ [l]
def onceR (ls : List Row) : List Row := ls.foldl addR []
theorem onceR_snoc {ls : List Row} {l : Row} : onceR (ls ++ [l]) = addR (onceR ls) l := by
  unfold onceR
  rw [List.foldl_append]
  rfl
theorem onceR_len {ls : List Row} : (onceR ls).length ≤ ls.length := by
  induction ls using snocInd with
  | h0 => exact Nat.le_refl _
  | hs ls l ih =>
    rw [onceR_snoc, List.length_append, List.length_singleton]
    unfold addR
    split
    · omega
    · rw [List.length_append, List.length_singleton]; omega
theorem onceR_mem {ls : List Row} {l : Row} : l ∈ onceR ls ↔ l ∈ ls := by
  induction ls using snocInd with
  | h0 => rfl
  | hs ls x ih =>
    rw [onceR_snoc, List.mem_append, List.mem_singleton]
    unfold addR
    split
    · rename_i h
      rw [ih]
      exact ⟨.inl, fun z => z.elim id fun e => by subst e; exact ih.mp h⟩
    · rw [List.mem_append, List.mem_singleton, ih]
theorem onceR_nodup {ls : List Row} : (onceR ls).Nodup := by
  induction ls using snocInd with
  | h0 => exact List.nodup_nil
  | hs ls x ih =>
    rw [onceR_snoc]
    unfold addR
    split
    · exact ih
    · rename_i h
      rw [List.nodup_append]
      exact ⟨ih, by simp, fun a ha b hb e => h (by rw [List.mem_singleton] at hb; rw [← hb, ← e]; exact ha)⟩
def lamQ : Str := "_law_sorted" ++ ".<locals>." ++ "<lambda>"
def Srd (rs r : List Row) : Prop := Same rs r ∧ Up r ∧ r.length ≤ rs.length
abbrev Sdq := { rs : List Row // rs.length ≤ 1000 ∧ ∀ r ∈ rs, r.length ≤ 1000 }
abbrev FnLsd (g : Gc) (P : Addr) := Fn g "_law_sorted" 2 (Spc (fun (_ : Sdq) M => IsTb P lamQ M) (fun q => [tLs (q.1.map tRow)]) (fun q => tEx (Srd q.1) tRows))
theorem ok_law_sorted {c P : Addr} (b : Gb g) (LC : LamC g c P) (F : DfC g "_law_sorted" (top 61) c) : FnLsd g P := by
  refine fn_mkC (N := ["_law_rows", "_law_once", "_law_row"]) (ps := ["_law_rows"]) F ⟨rfl, rfl, rfl, by decide +kernel, rfl, by decide +kernel, by decide +kernel⟩ (fun _ => rfl) (by decide) (hb1 fun _ _ _ _ _ _ _ => rfl) (fun _ _ _ h => h.dom) fun q M S_0 H_0 hM X A hc hq => ?_
  obtain ⟨rs, h1, h2⟩ := q
  have hM : IsTb P lamQ M := hM
  refine fb_own A 1 (xf_lst xa_nil) fun _ Q _ => ?_
  refine fb_cons (mid := Ct M S_0 S_0 H_0 [.ty (tLs (rs.map tRow)), .own Q (.lst ((onceR rs).map tRow)), .unk]) (xs_for (ts := rs.map tRow) (fun i (_ : Unit) => True) (fun i _ => [.ty (tLs (rs.map tRow)), .own Q (.lst ((onceR (rs.take i)).map tRow)), .unk]) (G1 := fun i _ => match rs[i]? with
    | some r => [.ty (tLs (rs.map tRow)), .own Q (.lst ((onceR (rs.take i)).map tRow)), .ty (tRow r)]
    | none => []) (vs := [2]) (xi_list (x_var 0)) () trivial rfl (fun i _ t hit _ => ?_) (fun i _ t B' hit _ _ => ?_) (fun _ σ H _ ct => ?_) (by intro _ _; rfl) X A) (fb_frz 1 rfl ?_)
  · obtain ⟨r, hr, _, rfl⟩ := map_get hit
    rw [hr]
    exact xg_name 2
  · obtain ⟨r, hr, hrm, rfl⟩ := map_get hit
    rw [hr, take_succ_get hr]
    have tl : (onceR (rs.take i)).length ≤ 1000 := Nat.le_trans onceR_len (by rw [List.length_take]; omega)
    refine xb_one (xs_if (xt_frz 1 rfl (xt_niL encRow (x := r) (xs := onceR (rs.take i)) (x_var 2) (x_var 1))) (fun hc => ?_) fun hc => ?_)
    · have hc : r ∉ onceR (rs.take i) := by
        have : true = !decide (r ∈ onceR (rs.take i)) := hc
        intro z
        rw [decide_eq_true z] at this
        cases this
      refine xb_app 1 rfl (x_var 2) (by rw [List.length_map]; omega) (xb_nil fun σ H ct => ⟨(), trivial, ?_⟩)
      rw [onceR_snoc]
      unfold addR
      rw [if_neg hc, List.map_append]
      exact ct.forget
    · have hc : r ∈ onceR (rs.take i) := by
        have : false = !decide (r ∈ onceR (rs.take i)) := hc
        by_cases z : r ∈ onceR (rs.take i)
        · exact z
        · rw [decide_eq_false z] at this; cases this
      refine xb_nil fun σ H ct => ⟨(), trivial, ?_⟩
      rw [onceR_snoc]
      unfold addR
      rw [if_pos hc]
      exact ct.forget
  · rw [List.length_map, List.take_length] at ct
    exact ct
  · have lw : ∀ r ∈ onceR rs, r.length ≤ 1000 := fun r hr => h2 r (onceR_mem.mp hr)
    refine fb_ret (t := tRows ((onceR rs).mergeSort (dLe dSk))) (f_tupL A (f_sortL (xs := onceR rs) (T := tRow) (Ky := tSk) (kd := dSk) (c := c) (P := P) (q := lamQ) (y := "_law_row") (N := ["_law_row", "_law_v"]) (k := 0) A LC hM hc (by rw [hq]; rfl) (by decide +kernel) (fun _ => rfl) ⟨rfl, rfl, rfl, by decide +kernel, rfl, by decide +kernel, by decide +kernel⟩ (by decide) (fun _ _ _ _ => rfl) (by decide) (fun r hr => ?_) (fun r _ => isD_sk r) (kinL_sk _).k (fun r _ => Nat.le_trans (dt_sk r).dep (by decide)) (x_var 1) b.sorted) b.tuple) fun v H h => ?_
    · exact x_lcA (xs := r) (own := [("_law_v", 1)]) (vs := [1]) (T := tVl) (U := tSv) (G1 := fun v => [.ty (tRow r), .ty (tVl v)]) (xi_tup (x_var 0)) rfl (blkOk_by (by decide +kernel)) (Nat.le_trans (lw r hr) (by decide)) (fun v _ => xg_name 1) fun v _ => x_tup (ts := [tBl (isT v.1), tVl v]) (xa_2 (x_isi (x_var 1) (tag_ky v.1) (kit_str v.1) b.isinstance b.str boot_str') (x_var 1))
    · obtain ⟨S, g1, g2, g3⟩ := h
      have nd := onceR_nodup (ls := rs)
      exact ⟨S, g1, g2, _, ⟨⟨(List.mergeSort_perm _ _).nodup_iff.mpr nd, fun x => by rw [(List.mergeSort_perm _ _).mem_iff, onceR_mem]⟩, up_sorted nd, by rw [List.length_mergeSort]; exact onceR_len⟩, g3⟩
end Z
end

section
/-! T34: _law_books. -/
namespace Z
open PySem PySem.Spec L2 PySem.W ZL
variable {g : Gc}
section
variable {ι : Type} {l : Lc} {M : Md} {G : List Slot} {pos p : Pos} {a b st : Expr} {q : ι → Prop}
theorem x_tupLX {f : ι → List Ty} (h : XE g l M G a (tEx q fun j => tLs (f j))) (hm : g.mg "tuple" = none) (hg : l.sc.names.lookup ("tuple" : Str) = some .globalImplicit := by rfl) (hs : ∀ env, starEach [a] env = (false, eval a env) :: starEach [] env := by intro _; rfl) (hpl : ∀ env, (backTo pos (starEach [] env)).any (·.1) = false := by intro _; rfl) : XE g l M G (.Call (.Name "tuple" p) [a] [] pos) (tEx q fun j => tTu (f j)) :=
  x_callTy (f := fun xs H Q => ∃ p ys, xs = [.ref p] ∧ ((SqL g.K H p ys ∧ ∀ l, H l = none → Q (.ref l) (upd H l (.tup ys))) ∨ (SqT g.K H p ys ∧ Q (.ref p) H))) (fun X A => by rw [← A.K]; exact call_tuple_of) (fun S H vs Q e k qk => by
    obtain ⟨v, rfl, j, hj, d, ws, rfl, h2, h3⟩ := k.one
    refine ⟨d, ws, rfl, .inl ⟨SqL.of (e _ _ h2), fun w hw => ?_⟩⟩
    have gr := Gr.new (o := .tup ws) e hw
    exact qk _ _ _ gr ⟨j, hj, w, ws, rfl, upd_same, h3.mono gr.ss⟩) hm boot_tuple' (xa_1 h hs) hg (by decide) (by decide) hs hpl
/-- one of a list, drawn -/
theorem x_pick {α : Type} {T : α → Ty} {xs : List α} {qs : Stq} {p1 p2 p3 p4 p5 p6 : Pos} {nx ns : Str} (F : FnTake g) (hM : IsSt qs.a qs.sc M) (b0 : Gb g) (h1 : 1 ≤ xs.length) (h2 : xs.length ≤ 100000) (hx : ∀ p, XE g l M G (.Name nx p) (tLs (xs.map T))) (hst : XE g l M G (.Name ns p1) (qs.ty g)) (hj : 1 ≤ l.k := by decide) (hg : l.sc.names.lookup ("_law_take" : Str) = some .globalImplicit := by rfl) (hg2 : l.sc.names.lookup ("len" : Str) = some .globalImplicit := by rfl) :
    XE g l M G (.Subscript (.Name nx p2) (.Call (.Name "_law_take" p3) [.Name ns p1, .Call (.Name "len" p4) [.Name nx p5] [] p6] [] p) pos) (tEx (fun x => x ∈ xs) T) :=
  x_sub (x_ixLX (n := xs.length) (hx _) (x_take F hM (n := xs.length) ⟨by omega, by omega⟩ hst (x_ty (x_lenL (hx _) b0.len hg2) (by rw [List.length_map]; rfl)) hj hg) (by rw [List.length_map]; exact Nat.le_refl _)) fun S v ⟨i, hi, hv⟩ => by
    have hv : ((xs.map T).getD i tNon).is S v := hv
    rw [List.getD_eq_getElem?_getD, List.getElem?_map, List.getElem?_eq_getElem hi] at hv
    exact ⟨xs[i], List.getElem_mem hi, hv⟩
end
theorem rngT_get {lo : Int} {n i : Nat} {t : Ty} (h : (rngT lo n)[i]? = some t) : i < n ∧ t = tIn (lo + (i : Nat)) := by
  unfold rngT at h
  rw [List.getElem?_map] at h
  obtain ⟨k, hk, rfl⟩ := Option.map_eq_some_iff.mp h
  obtain ⟨hlt, e⟩ := List.getElem?_eq_some_iff.mp hk
  rw [List.getElem_range] at e
  rw [List.length_range] at hlt
  subst e
  exact ⟨hlt, rfl⟩
theorem rngT_len {lo : Int} {n : Nat} : (rngT lo n).length = n := by unfold rngT; rw [List.length_map, List.length_range]
def RowIn (c : Nat) (vs : List Vl) (r : Row) : Prop := r.length = c ∧ ∀ v ∈ r, v ∈ vs
def TabIn (m : Nat) (vs : List Vl) (t : Tab) : Prop := t.2.2.length ≤ m ∧ (∀ r ∈ t.2.2, RowIn t.2.1 vs r) ∧ Up t.2.2
def BkIn (hs : List (Nm × Nat)) (m : Nat) (vs : List Vl) (k : Book) : Prop := headsOf k = hs ∧ ∀ t ∈ k, TabIn m vs t
structure BksIn (hs : List (Nm × Nat)) (m : Nat) (vs : List Vl) (bs : List Book) : Prop where
  n1 : 1 ≤ bs.length
  n2 : bs.length ≤ 2
  bk : ∀ k ∈ bs, BkIn hs m vs k
structure BqOk (hs : List (Nm × Nat)) (vs : List Vl) (m : Nat) : Prop where
  hl : hs.length ≤ 10
  hc : ∀ h ∈ hs, h.2 ≤ 1000
  v1 : 1 ≤ vs.length
  v2 : vs.length ≤ 1000
  ml : m ≤ 900
structure Bq where
  s : Stq
  hs : List (Nm × Nat)
  vs : List Vl
  m : Nat
  ok : BqOk hs vs m
structure IsM (q : Stq) (P : Addr) (M : Md) : Prop where
  st : IsSt q.a q.sc M
  tb : IsTb P lamQ M
theorem IsM.dom {q : Stq} {P : Addr} {M : Md} {d : Addr → Prop} (h : IsM q P M) : IsM q P { M with dom := d } := ⟨h.st.dom, h.tb.dom⟩
abbrev FnLbooks (g : Gc) (P : Addr) := Fn g "_law_books" 3 (Spc (fun (q : Bq) M => IsM q.s P M) (fun q => [q.s.ty g, tLs (q.hs.map tHd), tLs (q.vs.map tVl), tNt q.m]) (fun q => tEx (BksIn q.hs q.m q.vs) tBks))
theorem ok_law_books {P : Addr} (b : Gb g) (F : Df g "_law_books" (top 63)) (F1 : FnTake g) (F2 : FnLsd g P) : FnLbooks g P := by
  refine fn_mk (N := ["_law_state", "_law_tables_here", "_law_pool_here", "_law_most", "_law_books_here", "_law_book", "_law_told", "_law_name", "_law_columns", "_law_rows", "_law_k", "_law_c"]) (ps := ["_law_state", "_law_tables_here", "_law_pool_here", "_law_most"]) F ⟨rfl, rfl, rfl, by decide +kernel, rfl, by decide +kernel, by decide +kernel⟩ (fun _ => rfl) (by decide) (fun _ _ _ _ _ _ us hl => match us, hl with | [_, _, _, _], _ => rfl) (fun _ _ _ h => h.dom) fun q M S_0 H_0 hM => ?_
  obtain ⟨q, hs, vs, m, ok⟩ := q
  have hM : IsM q P M := hM
  have v1 := ok.v1
  have v2 := ok.v2
  have ml := ok.ml
  refine xb_newL 4 fun P1 => ?_
  refine xb_forX (κ := Nat) (q := fun n => 1 ≤ (n : Int) ∧ (n : Int) ≤ 2) (f := fun n => rngT 0 n) (fun n i (z : List Book) => z.length = i ∧ ∀ k ∈ z, BkIn hs m vs k)
    (fun n i z => [.ty (q.ty g), .ty (tLs (hs.map tHd)), .ty (tLs (vs.map tVl)), .ty (tNt m), .own P1 (.lst (z.map tBk)), .unk, .unk, .unk, .unk, .unk, .unk, .unk])
    (G1 := fun n i z => [.ty (q.ty g), .ty (tLs (hs.map tHd)), .ty (tLs (vs.map tVl)), .ty (tNt m), .own P1 (.lst (z.map tBk)), .ty (tIn (0 + (i : Nat))), .unk, .unk, .unk, .unk, .unk, .unk]) (vs := [5])
    (xix_rng (q := fun i => 1 ≤ i ∧ i ≤ 2) (x_addX (x_intX (p := fun i => i = 1) rfl) (x_sub (x_take F1 hM.st (n := 2) (by decide) (x_var 0) x_int) tk_sub) fun i j h1 h2 => ⟨by omega, by omega⟩) (fun i h => ⟨by omega, by omega⟩) b.range) (fun _ => []) (fun n hn => ⟨rfl, fun k hk => by cases hk⟩) (fun n hn => rfl) (fun n i z t hn hit iv => ?_) (fun n i z t B' hn hit iv _ => ?_) fun n z hn iv => ?_
  · obtain ⟨_, rfl⟩ := rngT_get hit
    exact xg_name 5
  · obtain ⟨hi, rfl⟩ := rngT_get hit
    obtain ⟨iv1, iv2⟩ := iv
    refine xb_pre (pre := Ct M B' S_0 H_0 [.ty (q.ty g), .ty (tLs (hs.map tHd)), .ty (tLs (vs.map tVl)), .ty (tNt m), .own P1 (.lst (z.map tBk)), .unk, .unk, .unk, .unk, .unk, .unk, .unk]) ?_ fun σ H ct => ct.forget
    refine xb_newL 6 fun P2 => ?_
    refine xb_for (ts := hs.map tHd) (fun j (y : List Tab) => headsOf y = hs.take j ∧ ∀ t ∈ y, TabIn m vs t)
      (fun j y => [.ty (q.ty g), .ty (tLs (hs.map tHd)), .ty (tLs (vs.map tVl)), .ty (tNt m), .own P1 (.lst (z.map tBk)), .unk, .own P2 (.lst (y.map tTab)), .unk, .unk, .unk, .unk, .unk]) (G1 := fun j y => match hs[j]? with
      | some h => [.ty (q.ty g), .ty (tLs (hs.map tHd)), .ty (tLs (vs.map tVl)), .ty (tNt m), .own P1 (.lst (z.map tBk)), .unk, .own P2 (.lst (y.map tTab)), .ty (tNm h.1), .ty (tNt h.2), .unk, .unk, .unk]
      | none => []) (vs := [7, 8]) (xi_list (x_var 1)) [] ⟨rfl, fun t ht => by cases ht⟩ rfl (fun j y t hit2 iw => ?_) (fun j y t B2 hit2 iw _ => ?_) fun y iw => ?_
    · obtain ⟨h, hh, _, rfl⟩ := map_get hit2
      rw [hh]
      exact xg_tup (xgs_cons (xg_name 7) (xgs_cons (xg_name 8) xgs_nil))
    · obtain ⟨h, hh, hmem, rfl⟩ := map_get hit2
      rw [hh]
      obtain ⟨n0, c⟩ := h
      have hc : c ≤ 1000 := ok.hc _ hmem
      have hj : j < hs.length := (List.getElem?_eq_some_iff.mp hh).1
      have hl := ok.hl
      obtain ⟨iw1, iw2⟩ := iw
      refine xb_newL 9 fun P3 => ?_
      refine xb_forX (κ := Nat) (q := fun n => 0 ≤ (n : Int) ∧ (n : Int) < (m : Int) + 1) (f := fun n => rngT 0 n) (fun n i (x : List Row) => x.length = i ∧ ∀ r ∈ x, RowIn c vs r)
        (fun n i x => [.ty (q.ty g), .ty (tLs (hs.map tHd)), .ty (tLs (vs.map tVl)), .ty (tNt m), .own P1 (.lst (z.map tBk)), .unk, .own P2 (.lst (y.map tTab)), .ty (tNm n0), .ty (tNt c), .own P3 (.lst (x.map tRow)), .unk, .unk])
        (G1 := fun n i x => [.ty (q.ty g), .ty (tLs (hs.map tHd)), .ty (tLs (vs.map tVl)), .ty (tNt m), .own P1 (.lst (z.map tBk)), .unk, .own P2 (.lst (y.map tTab)), .ty (tNm n0), .ty (tNt c), .own P3 (.lst (x.map tRow)), .ty (tIn (0 + (i : Nat))), .unk]) (vs := [10])
        (xix_rng (q := fun i => 0 ≤ i ∧ i < (m : Int) + 1) (x_sub (x_take F1 hM.st (n := m + 1) ⟨by omega, by omega⟩ (x_var 0) (x_isI (x_add (x_var 3) x_int) (by omega))) tk_sub) (fun i h => ⟨by omega, by omega⟩) b.range) (fun _ => []) (fun n hn => ⟨rfl, fun k hk => by cases hk⟩) (fun n hn => rfl) (fun n i x t hn hit3 iu => ?_) (fun n i x t B3 hn hit3 iu _ => ?_) fun n x hn iu => ?_
      · obtain ⟨_, rfl⟩ := rngT_get hit3
        exact xg_name 10
      · obtain ⟨hi3, rfl⟩ := rngT_get hit3
        obtain ⟨iu1, iu2⟩ := iu
        have hn2 := hn.2
        refine xb_appX (q := RowIn c vs) (f := tRow) 9 rfl (x_sub (x_tupLX (x_lcS (own := [("_law_c", 11)]) (vs := [11]) (P := fun v => v ∈ vs) (T := tVl) (G1 := fun _ k => [.ty (q.ty g), .ty (tLs (hs.map tHd)), .ty (tLs (vs.map tVl)), .ty (tNt m), .own P1 (.lst (z.map tBk)), .unk, .own P2 (.lst (y.map tTab)), .ty (tNm n0), .ty (tNt c), .own P3 (.lst (x.map tRow)), .ty (tIn (0 + (i : Nat))), .ty (tIn (0 + (k : Nat)))]) rfl
          (xix_of (xi_rng (x_var 8) (by omega) (by omega) b.range)) (blkOk_by (by decide +kernel)) (fun _ _ => ?_) (fun _ k t _ hit4 => ?_) fun _ k t _ hit4 => x_pick F1 hM.st b v1 (by omega) (fun _ => x_var 2) (x_var 0)) b.tuple) ?_) ?_ fun r hr => xb_nil fun σ H ct => ⟨x ++ [r], ⟨?_, ?_⟩, ?_⟩
        · rw [rngT_len, Int.toNat_natCast]; omega
        · obtain ⟨_, rfl⟩ := rngT_get hit4
          exact xg_name 11
        · intro S v ⟨ys, ⟨⟨_, _, k1⟩, k2⟩, k3⟩
          rw [rngT_len, Int.toNat_natCast] at k1
          exact ⟨ys, ⟨k1, k2⟩, k3⟩
        · rw [List.length_map]; omega
        · rw [List.length_append, iu1]; rfl
        · intro r' hr'
          rcases List.mem_append.mp hr' with h | h
          · exact iu2 r' h
          · rw [List.mem_singleton.mp h]; exact hr
        · rw [List.map_append]
          exact ct.forget
      · obtain ⟨iu1, iu2⟩ := iu
        rw [rngT_len] at iu1
        have hn2 := hn.2
        refine xb_frz 9 rfl ?_
        refine xb_appX (q := Srd x) (f := fun r => tTab (n0, c, r)) 6 rfl (x_sub (x_tup (ts := [tNm n0, tNt c, tEx (Srd x) tRows]) (xa_3 (x_var 7) (x_var 8) (x_callI F2 ⟨x, by omega, fun r hr => by rw [(iu2 r hr).1]; exact hc⟩ (xa_1 (x_var 9)) hM.tb))) ?_) ?_ fun r hr => xb_nil fun σ H ct => ⟨y ++ [(n0, c, r)], ⟨?_, ?_⟩, ?_⟩
        · intro S v ⟨a, ws, e1, e2, e3⟩
          obtain ⟨w1, w2, w3, rfl, k1, k2, r, k3, k4⟩ := e3.three
          exact ⟨r, k3, a, _, e1, e2, .cons k1 (.cons k2 (.cons k4 .nil))⟩
        · have := congrArg List.length iw1
          unfold headsOf at this
          rw [List.length_map, List.length_take] at this
          rw [List.length_map]; omega
        · unfold headsOf at iw1 ⊢
          rw [List.map_append, iw1, take_succ_get hh]
          rfl
        · intro t ht
          rcases List.mem_append.mp ht with h | h
          · exact iw2 t h
          · rw [List.mem_singleton.mp h]
            have hl2 : r.length ≤ x.length := hr.2.2
            exact ⟨by show r.length ≤ m; omega, fun r' hr' => iu2 r' ((hr.1.2 r').mp hr'), hr.2.1⟩
        · rw [List.map_append]
          exact ct.forget
    · rw [List.length_map, List.take_length] at iw
      refine xb_frz 6 rfl ?_
      refine xb_app (t := tBk y) 4 rfl (x_tupL (x_var 6) b.tuple) (by rw [List.length_map]; have := hn.2; omega) (xb_nil fun σ H ct => ⟨z ++ [y], ⟨by rw [List.length_append, iv1]; rfl, fun k hk => ?_⟩, ?_⟩)
      · rcases List.mem_append.mp hk with h | h
        · exact iv2 k h
        · rw [List.mem_singleton.mp h]; exact iw
      · rw [List.map_append]
        exact ct.forget
  · obtain ⟨iv1, iv2⟩ := iv
    rw [rngT_len] at iv1
    refine xb_frz 4 rfl (xb_rt (x_tupL (x_var 4) b.tuple) ?_)
    exact fun S v hv => ⟨z, ⟨by have := hn.1; omega, by have := hn.2; omega, iv2⟩, hv⟩
end Z
end

section
/-! T34b: name = [.. if ..], tests that are not told. -/
namespace Z
open PySem PySem.Spec L2 PySem.W ZL
section
variable {ι : Type} {g : Gc} {l : Lc} {M : Md} {B S_0 H_0 : Hp} {G : List Slot} {pos p : Pos} {tg iter elt e : Expr} {ifs : List Expr} {scope : Scope} {own : List (Str × Nat)} {ts : List Ty} {t : Ty} {vs : List Nat} {py spos : Pos} {rest : List Stmt} {D : Ends} {P : ι → Prop} {T : ι → Ty}
/-- a list of so many things of a kind, or less -/
def cnP (n : Nat) (P : ι → Prop) (T : ι → Ty) : Con where
  is := fun _ S o => ∃ (ys : List ι) (vs : List V), o = .lst vs ∧ ys.length ≤ n ∧ (∀ y ∈ ys, P y) ∧ Tys S (ys.map T) vs
  mono := fun e ⟨ys, vs, h1, h2, h3, h4⟩ => ⟨ys, vs, h1, h2, h3, h4.mono e⟩
  mu := fun ⟨ys, vs, h1, h2, h3, h4⟩ => by rw [h1]; trivial
  nx := fun ⟨ys, vs, h1, h2, h3, h4⟩ q => by rw [h1]; unfold LamX.CodeO; exact fun z => nomatch z
theorem yb_P {n : Nat} (he : ∀ D, XE g l (M.gd D) G elt (tEx P T)) (hl : n < 100000) : YB g l M G vs (bodL elt) (cnP n P T) (cnP (n + 1) P T) := fun X A D => by
  refine ⟨fun pins s σ H Dn I ⟨S, pr, hd, q⟩ => ?_⟩
  obtain ⟨k1, k2, o, k3, ys, ws, rfl, k4, k5, k6⟩ := hd
  have h := yb_L (vs := vs) (ts := ys.map T) he (by rw [List.length_map]; omega) X A D
  refine h.run pins s σ H Dn I ⟨S, pr, ⟨k1, k2, _, k3, ws, rfl, k6⟩, fun σ' S' H' p1 h1 w1 => q σ' S' H' p1 ?_ w1⟩
  obtain ⟨m1, m2, o, m3, zs, rfl, m4⟩ := h1
  obtain ⟨as, w, rfl, n1, y, n2, n3⟩ := tys_last m4
  refine ⟨m1, m2, _, m3, ys ++ [y], _, rfl, by rw [List.length_append]; show ys.length + 1 ≤ _; omega, fun z hz => ?_, by rw [List.map_append]; exact n1.snoc n3⟩
  rcases List.mem_append.mp hz with hz | hz
  · exact k5 z hz
  · rw [List.mem_singleton.mp hz]; exact n2
def nT (M : Md) (ts : List Ty) (G1 : Nat → List Slot) (D : Addr) : TT := fun σ H Q => ∃ i t, ts[i]? = some t ∧ tT (M.gd D) (G1 i) (fun _ => True) σ H Q
def nY (M : Md) (ts : List Ty) (G1 : Nat → List Slot) (vs : List Nat) (P : ι → Prop) (T : ι → Ty) (D : Addr) : TB := fun Dn σ H => ∃ i t, ts[i]? = some t ∧ tY M (G1 i) D vs (cnP i P T) (cnP (i + 1) P T) Dn σ H
theorem cnP_le {n m : Nat} (h : n ≤ m) {M : Md} {D : Addr} {S H : Hp} (k : Hld M D (cnP n P T) S H) : Hld M D (cnP m P T) S H := by
  obtain ⟨k1, k2, o, k3, ys, ws, k4, k5, k6⟩ := k
  exact ⟨k1, k2, o, k3, ys, ws, k4, Nat.le_trans k5 h, k6⟩
theorem k_readN {G1 : Nat → List Slot} {J : It} {D : Addr} {σ : L2.St} {S H : Hp} {Dn : L2.St → Hp → Prop} (pr : Pre (M.gd D) G σ S H) (hl : Hld M D (cnP 0 P T) S H) (wk : Walk J S ts)
    (q : ∀ S' H', PostD M D S H S' H' → Hld M D (cnP ts.length P T) S' H' → Dn (wipe σ vs) H') : tK vs (yG M G ts vs G1 D) (nT M ts G1 D) (nY M ts G1 vs P T D) J Dn σ H := by
  refine ⟨fun i m H' => m = ts.length - i ∧ i ≤ ts.length ∧ ∃ S', PostD M D S H S' H' ∧ Hld M D (cnP i P T) S' H', ⟨ts.length, rfl, Nat.zero_le _, S, ⟨Gr.refl pr.1, pr.2.1⟩, hl⟩, ?_⟩
  rintro i m H2 ⟨rfl, hil, S2, q2, hl2⟩
  have p2 := pr.nextD q2
  by_cases hlt : i < ts.length
  · refine .inr ?_
    have hit : ts[i]? = some ts[i] := List.getElem?_eq_getElem hlt
    obtain ⟨go, yl⟩ := wk.go S2 H2 i _ q2.1.ss q2.1.sh hit
    refine ⟨go, fun H' => i + 1 ≤ ts.length ∧ ∃ S', PostD M D S H S' H' ∧ Hld M D (cnP (i + 1) P T) S' H', fun H' ⟨k1, k2⟩ => ⟨ts.length - (i + 1), by omega, rfl, k1, k2⟩, fun x H3 hy => ?_⟩
    obtain ⟨S3, g3, hx⟩ := yl x H3 hy
    have q3 : Post (M.gd D) S2 H2 S3 H3 := Post.of p2.2.1 g3
    have p3 := p2.next q3
    have hl3 := hl2.post (M := M) q3
    refine ⟨i, _, hit, S3, ⟨p3.1, p3.2.1, p3.2.2.wiped _⟩, hx, fun σ4 p4 n4 l4 => ?_⟩
    have hw4 : wipe σ4 vs = wipe σ vs := by
      refine wipe_eq (fun j hj => ?_) (l4.trans (wipe_length ..))
      rw [n4 j hj, wipe_out hj]
    refine ⟨hw4, i, _, hit, S3, p4, fun b S5 H5 q5 _ => ?_⟩
    have p5 := p4.next q5
    have hl5 := hl3.post (M := M) q5
    have q25 : PostD M D S H S5 H5 := q2.trans ((Post.wide (M := M) q3).trans (Post.wide (M := M) q5))
    cases b with
    | false => exact iteF ⟨by omega, S5, q25, cnP_le (Nat.le_succ i) hl5⟩
    | true => exact iteT ⟨i, _, hit, S5, p5, hl5, fun σ' S' H' q6 hl6 hw => ⟨hw.trans hw4, by omega, S', q25.trans q6, hl6⟩⟩
  · have e : i = ts.length := by omega
    subst e
    exact .inl ⟨wk.stop S2 H2 q2.1.ss q2.1.sh, q S2 H2 q2 hl2⟩
theorem c_readN {G1 : Nat → List Slot} {ho : Addr → HO} (h0 : ∀ D S, (cnP 0 P T).is D S (ho D)) {σ : L2.St} {H : Hp} {Q : VK} (h : tFC M G (cnP ts.length P T) σ H Q) :
    tI M G ts σ H fun J H1 => ∀ D, H1 D = none → tK vs (yG M G ts vs G1 D) (nT M ts G1 D) (nY M ts G1 vs P T D) J (fun _ H' => Q (.ref D) H') σ (upd H1 D (ho D)) := by
  obtain ⟨S, pr, q⟩ := h
  refine ⟨S, pr, fun J S1 H1 q1 wk D hD => ?_⟩
  have p1 := pr.next q1
  have gr := Gr.lay (o := ho D) p1.1 hD
  have ch : ¬ M.ch D := M.fresh p1.2.1 hD
  have en : Env (M.gd D) S1 (upd H1 D (ho D)) σ G := by
    have e := p1.2.2
    refine ⟨e.len, fun i s hi => ?_, e.dis⟩
    obtain ⟨x, k1, k2⟩ := e.at_ i s hi
    refine ⟨x, k1, ?_⟩
    cases s with
    | unk => trivial
    | ty t => exact k2
    | own p c =>
      obtain ⟨m1, m2, m3, o, m4, m5⟩ := k2
      have ne : p ≠ D := ne_of_none m4 hD
      exact ⟨m1, ⟨m2.1, fun z => z.elim m2.2 ne⟩, m3, o, by rw [upd_ne ne]; exact m4, m5⟩
  refine k_readN ⟨gr.sh, M.stabG gr p1.2.1, en⟩ ⟨ch, p1.1.none hD, _, upd_same, h0 D S1⟩ ((show Walk J S1 ts from wk)) fun S' H' q2 hl2 => ?_
  exact q D S' H' ⟨q1.1.trans (gr_undo (mu := no) hD q2.1), q2.2⟩ (q1.1.fresh hD) hl2
theorem beg_P {g : Gc} : Beg g (newList []) (cnP 0 P T) := by
  obtain ⟨o, ho, h1, h2⟩ := (beg_L (g := g)).ex
  refine ⟨o, ho, h1, fun D S => ?_⟩
  obtain ⟨vs, e, h⟩ := h2 D S
  cases h
  exact ⟨[], [], e, Nat.le_refl _, (fun y hy => by cases hy), Tys.nil⟩
/-- name = [elt for tg in iter if ..] -/
theorem xb_setN {α : Type} {xs : List α} {U : α → Ty} {G1 : α → List Slot} (i : Nat) {y : Str} (hvs : vs = own.map (·.2)) (hi : XI g l M G tg iter (xs.map U)) (ok : BlkOk l.N l.sc scope own) (hz : xs.length ≤ 50000) (hg : ∀ D x, x ∈ xs → XG g (l.blk scope) (M.gd D) (wipeG G vs) vs tg (U x) (G1 x)) (ht : ∀ D x, x ∈ xs → XTs g (l.blk scope) (M.gd D) (G1 x) ifs (fun _ => True))
    (he : ∀ D x, x ∈ xs → XE g (l.blk scope) (M.gd D) (G1 x) elt (tEx P T)) (k : ∀ ys : List ι, ys.length ≤ xs.length → (∀ y ∈ ys, P y) → XB g l (Ct M B S_0 H_0 (G.set i (.ty (tLs (ys.map T))))) rest D)
    (hl : (py.line == pos.line) = true := by rfl) (han : (scope.names.any fun (n, k) => n == y && (k == .local || k == .cell)) = false := by decide +kernel) (hN : l.N[i]? = some y := by rfl) (hx : l.sc.names.lookup y = some .local := by rfl) (hil : i < G.length := by exact of_decide_eq_true rfl) (hs : ∀ env x, foldedSetIterable iter env x = pure x := by intro _ _; rfl) :
    XB g l (Ct M B S_0 H_0 G) (.Assign [.Name y py] (.ListComp elt [⟨tg, iter, ifs, 0⟩] scope pos) spos :: rest) D := by
  subst hvs
  have st : XSc g l M G (.Assign [.Name y py] (.ListComp elt [⟨tg, iter, ifs, 0⟩] scope pos) spos) i (cnP xs.length P T) := fun X A => by
    obtain ⟨o, ho, nw, h0⟩ := (beg_P (P := P) (T := T) (g := g)).ex
    have bk : ∀ X', Bk X scope X' → At g (l.blk scope) X' := fun X' ⟨s, H, E, cl, fp, e⟩ => by rw [e]; exact A.blk _ _ _ _ _ _ ok.kind
    have nd : X.N.Nodup := by rw [A.N]; exact A.nd
    have hx' : X.env.scope.names.lookup y = some .local := by rw [A.sc]; exact hx
    have hsw := sw_of (py := py) (C := .ListComp elt [⟨tg, iter, ifs, 0⟩] scope pos) (y := y) (ln := spos.line) (fun _ => rfl) hl han
    refine convAsg (ps_cc (pos' := firstIterPos [⟨tg, iter, ifs, 0⟩] pos) (own := own) (body := bodL elt) (g := yG M G (xs.map U) (own.map Prod.snd) (atOr xs G1 [])) (tt := nT M (xs.map U) (atOr xs G1 [])) (tb := nY M (xs.map U) (atOr xs G1 []) (own.map Prod.snd) P T) rfl (fun _ _ => rfl) (hsw _ A.kind hx') (by rw [A.N]; exact hN) hx' (nw X A.prog A.w) A.calm nd (hi X A) (by rw [A.N, A.sc]; exact ok)
      (fun X' D k => cl_L) (fun X' D k => ?_) (fun X' D k => ?_) (fun X' D k => ?_) (hs _)) fun σ H Q h => c_readN (vs := own.map Prod.snd) (G1 := atOr xs G1 []) h0 (by rw [List.length_map]; exact h)
    · refine ⟨fun pins s σ H v w Q I r ⟨i, t, hit, h⟩ => ?_⟩
      obtain ⟨x, hx1, hm, rfl⟩ := map_get hit
      rw [atOr_eq hx1] at h
      exact (hg D x hm X' (bk X' k)).run pins s σ H v w Q I r h
    · refine ⟨fun pins s σ H Q I ⟨i, t, hit, h⟩ => ?_⟩
      obtain ⟨x, hx1, hm, rfl⟩ := map_get hit
      rw [atOr_eq hx1] at h
      exact (ht D x hm X' (bk X' k)).run pins s σ H Q I h
    · refine ⟨fun pins s σ H Dn I ⟨i, t, hit, h⟩ => ?_⟩
      obtain ⟨x, hx1, hm, rfl⟩ := map_get hit
      rw [atOr_eq hx1] at h
      have hil := (List.getElem?_eq_some_iff.mp hx1).1
      exact (yb_P (vs := own.map Prod.snd) (fun D' => he D' x hm) (by omega) X' (bk X' k) D).run pins s σ H Dn I h
  refine xb_cons (fun σ H => ∃ ys : { ys : List ι // ys.length ≤ xs.length ∧ ∀ y ∈ ys, P y }, Ct M B S_0 H_0 (G.set i (.ty (tLs (ys.1.map T)))) σ H) (fun X A => convS (st X A) fun D' σ H ⟨ct, le⟩ => ?_) (xb_ex fun ys => k ys.1 ys.2.1 ys.2.2)
  obtain ⟨S, c1, c2, pr⟩ := ct.get
  refine ⟨S, pr, fun p S' H' q1 hp ⟨n1, n2, o, n3, ys, ws, n4, n5, n6, n7⟩ => le.nx _ _ ⟨⟨ys, n5, n6⟩, ?_⟩⟩
  have hp0 : H_0 p = none := c2.gr.fresh hp
  have ex : Ex S' (upd S' p o) := fun a u e => by rw [upd_ne (ne_of_none e n2)]; exact e
  refine .of ((c1.comp q1.1.ss).comp ex) ⟨(c2.trans q1.1).gr.freeze hp0 n2 n3, c2.dm⟩ ⟨fun a u e => ?_, M.stabF n2 n1 q1.2, ?_⟩
  · by_cases z : a = p
    · subst z; rw [upd_same] at e; cases e; exact n3
    · rw [upd_ne z] at e; exact q1.1.sh a u e
  · have g2 : Gr M.ch S H (upd S' p o) H' := q1.1.freeze hp n2 n3
    exact (pr.2.2.grow g2).put i ⟨p, ws, rfl, by rw [upd_same, n4], n7.mono ex⟩
end
end Z
end

section
/-! T35: a def that gives a cell of one's own; _law_data. -/
namespace Z
open PySem PySem.Spec L2 PySem.W ZL
variable {g : Gc}
/-- a promise: a new cell -/
def Spf {ι : Type} (mo : ι → Md → Prop) (as : ι → List Ty) (c : ι → Cell) : Sp := fun vs H Q _ => ∃ (M : Md) (i : ι) (S : Hp), mo i M ∧ Ex S H ∧ M.inv S H ∧ Tys S (as i) vs ∧ ∀ p S' H' o, Post M S H S' H' → H p = none → S' p = none → H' p = some o → (c i).is S' o → Q (.ref p) H'
def Rf (M : Md) (S_0 H_0 : Hp) (c : Cell) : VK := fun v H => ∃ S p o, v = .ref p ∧ Gr M.ch S_0 H_0 S H ∧ M.inv S H ∧ H_0 p = none ∧ S p = none ∧ H p = some o ∧ c.is S o
theorem fn_mkF {x : Str} {st : Stmt} {N ps : List Str} {k : Nat} {ι : Type} {mo : ι → Md → Prop} {as : ι → List Ty} {c : ι → Cell} (F : Df g x st) (S : FnScope N ps (defScope st)) (hl : ∀ i, (as i).length = ps.length) (hN : ps.length ≤ N.length)
    (hb : ∀ (kV doc pm : Value) (an : Option Addr) (cdv ct : Value) (us : List Value), us.length = ps.length → bindArgs (PySem.W.fnOf x x (defArgs st) (defBody st) (defScope st) .none kV doc pm an cdv ct) ⟨us, []⟩ = pure (ps.zip us))
    (hmo : ∀ i M d, mo i M → mo i { M with dom := d })
    (body : ∀ (i : ι) (M : Md) (S_0 H_0 : Hp), mo i M → XB g ⟨N, defScope st, k, fun _ => true⟩ (Ct M S_0 S_0 H_0 ((as i).map Slot.ty ++ List.replicate (N.length - (as i).length) .unk)) (defBody st) { nx := fun _ _ => False, rt := Rf M S_0 H_0 (c i) }) : Fn g x (k + 1) (Spf mo as c) := by
  obtain ⟨f, fd, FD, hm⟩ := F.ex
  refine ⟨f, fd, ps, FD.ok S (fun vs H Q E h => ?_) (fun cdv A outer s H vs Q E hr h => ?_), hm, FD.kp, FD.bindsN hb⟩
  · obtain ⟨M, i, S1, h1, h2, h3, h4, h5⟩ := h
    rw [← hl i, h4.len]
  · obtain ⟨M, i, S1, h1, h2, h3, h4, h5⟩ := h
    have b := body i { M with dom := fun a => H a ≠ none } S1 H (hmo i M _ h1) (cxOf CX0 g.P g.w g.K g.mg g.base N x (defScope st) f cdv A outer s H E).nox ⟨rfl, rfl, rfl, rfl, rfl, rfl, rfl, hr, rfl, S.nd, fun _ _ => rfl, rfl, S.kind⟩
    refine ⟨_, b.nox, ⟨S1, Ex.rfl', ⟨Gr.refl h2, fun a => Iff.rfl⟩, h3, env_start h4 (by rw [hl i]; exact hN)⟩, ⟨fun σ H' z => z.elim, fun v H' ⟨S2, p, o, e, k1, k2, k3, k4, k5, k6⟩ => by subst e; exact h5 p S2 H' o ⟨k1, k2⟩ k3 k4 k5 k6, fun _ _ z => z, fun _ _ z => z⟩⟩
section
variable {ι : Type} {l : Lc} {M : Md} {B S_0 H_0 : Hp} {G : List Slot} {pos p p1 p2 : Pos} {a b c e st : Expr} {es : List Expr} {t u : Ty} {ts : List Ty} {rest : List Stmt} {D : Ends} {q : ι → Prop} {cl : Cell}
theorem xb_retF (he : XF g l M G e (fun _ : Unit => True) (fun _ => cl)) (k : ∀ v H, Rf M S_0 H_0 cl v H → D.rt v H := by exact fun _ _ h => h) : XB g l (Ct M B S_0 H_0 G) (.Return (some e) pos :: rest) D :=
  xb_cons (mid := fun _ _ => False) (fun X A => convS (ps_ret (he X A)) fun D' σ H ⟨c, le⟩ => by
    obtain ⟨S, c1, c2, pr⟩ := c.get
    exact ⟨S, pr, fun _ p S' H' o _ q1 hp hs ho hc => le.rt _ _ (k _ _ ⟨S', p, o, rfl, (c2.trans q1.1).gr, q1.2, c2.gr.fresh hp, hs, ho, hc⟩)⟩) (xb_never fun _ _ h => h)
theorem x_callF {mo : ι → Md → Prop} {as : ι → List Ty} {r : ι → Cell} {x : Str} {j : Nat} (F : Fn g x j (Spf mo as r)) (i : ι) (ha : XA g l M G (e :: es) (as i)) (hm : mo i M) (hj : j ≤ l.k := by decide) (hg : l.sc.names.lookup x = some .globalImplicit := by rfl) (hdb : (x == ("__debug__" : Str)) = false := by decide)
    (he : ∀ env, starEach (e :: es) env = (false, eval e env) :: starEach es env := by intro _; rfl) (hpl : ∀ env, (backTo pos (starEach es env)).any (·.1) = false := by intro _; rfl) : XF g l M G (.Call (.Name x p) (e :: es) [] pos) (fun _ : Unit => True) (fun _ => r i) := fun X A => by
  obtain ⟨f, fd, ps, F1, m, kp, b⟩ := F.ex
  rw [← A.prog, ← A.w, ← A.K, ← A.mg, ← A.base] at F1
  rw [← A.mg] at m
  rw [← A.K] at kp b
  refine conv (pe_call F1 (A.room.mono hj) (A.gl hg) m kp b .nil pass0 (ha X A) hdb (he _) (hpl _)) fun σ H Q ⟨S, pr, k⟩ => tA.step pr fun vs S1 H1 q1 p1 h1 => ?_
  rw [List.append_nil]
  exact ⟨M, i, S1, hm, p1.1, p1.2.1, h1, fun y S' H' o q2 hp hs ho hc => k () y S' H' o trivial (q1.trans q2) (q1.1.fresh hp) hs ho hc⟩
/-- truths that are not told -/
abbrev tBX : Ty := tEx (fun _ : Bool => True) tBl
theorem x_gtX {p q : Int → Prop} (ha : XE g l M G a (tIi p)) (hb : XE g l M G b (tIi q)) : XE g l M G (.Compare a [.Gt] [b] pos) tBX := x_cmp (fun X A => op_gt) (R2T_ex fun i j _ _ => (R2T_B0 (f := fun i j => decide (j < i))).sub (sub_bl trivial)) ha hb
theorem xt_eqX {p q : Int → Prop} (ha : XE g l M G a (tIi p)) (hb : XE g l M G b (tIi q)) : XT g l M G (.Compare a [.Eq] [b] pos) (fun _ => True) := xt_cmp (fun X A => op_eqA A) (R2T_ex fun i j _ _ => (R2T_eqD isD_in isD_in (dt_int.shaped (by decide)) (dt_int.shaped (by decide))).sub (sub_bl trivial)) ha hb
theorem x_slLE {f : ι → List Ty} {k : Nat} {p3 : Pos} (h : XE g l M G a (tEx q fun j => tLs (f j))) (hb : XE g l M G b (tIn (k : Int))) : XE g l M G (.Subscript a (.Slice none (some b) none p3) pos) (tEx q fun j => tLs ((f j).take k)) := fun X A =>
  conv (pe_slice (slA A) (h X A) po_none (po_some (hb X A))) fun σ H Q ⟨S, pr, kk⟩ => tE.step pr fun v S1 H1 q1 p1 ⟨j, hj, h1⟩ => tE.step p1 fun w S2 H2 q2 p2 h2 => by
    obtain ⟨c, vs, rfl, h3, h4⟩ := h1
    cases h2
    refine ⟨(k : Int), rfl, c, vs, rfl, SqL.of (p2.1 _ _ (q2.1.ss _ _ h3)), fun y hy => ?_⟩
    rw [cut_to]
    have gr := Gr.new (o := .lst (vs.take k)) p2.1 hy
    exact kk _ _ _ ((q1.trans q2).trans (Post.of p2.2.1 gr)) ⟨j, hj, y, _, rfl, upd_same, (h4.take k).mono (q2.1.ss.comp gr.ss)⟩
theorem x_lcF {κ : Type} {tg iter elt : Expr} {ifs : List Expr} {scope : Scope} {own : List (Str × Nat)} {q : κ → Prop} {f : κ → List Ty} {vs : List Nat} {G1 : κ → Nat → List Slot} {P : ι → Prop} {T : ι → Ty} (hvs : vs = own.map (·.2)) (hi : XIx g l M G tg iter q f) (ok : BlkOk l.N l.sc scope own) (hz : ∀ j, q j → (f j).length ≤ 100000)
    (hg : ∀ j i t, q j → (f j)[i]? = some t → XG g (l.blk scope) M (wipeG G vs) vs tg t (G1 j i)) (ht : ∀ j i t, q j → (f j)[i]? = some t → XTs g (l.blk scope) M (G1 j i) ifs (fun _ => True)) (he : ∀ j i t, q j → (f j)[i]? = some t → XE g (l.blk scope) M (G1 j i) elt (tEx P T))
    (hs : ∀ env x, foldedSetIterable iter env x = pure x := by intro _ _; rfl) : XE g l M G (.ListComp elt [⟨tg, iter, ifs, 0⟩] scope pos) (tEx (fun ys : List ι => (∃ j, q j ∧ ys.length ≤ (f j).length) ∧ ∀ y ∈ ys, P y) fun ys => tLs (ys.map T)) := by
  refine x_sub (x_lcX (B := fun _ _ _ => True) (u := fun _ _ => tEx P T) hvs hi ok hz hg ht (fun j i t hj hit _ => he j i t hj hit) hs) fun S v ⟨⟨j, ff⟩, ⟨h1, h2⟩, h3⟩ => ?_
  have h3 : (tLs (picked (f j).length ff (fun _ => tEx P T))).is S v := h3
  have pl : (picked (f j).length ff (fun _ => tEx P T)).length ≤ (f j).length := picked_len
  obtain ⟨ys, ⟨k1, k2⟩, k3⟩ := ls_some (p := P) (T := T) (fun t ht => by
    unfold picked at ht
    obtain ⟨_, _, rfl⟩ := List.mem_map.mp ht
    exact Sub.rfl') S v h3
  exact ⟨ys, ⟨⟨j, h1, by omega⟩, k2⟩, k3⟩
end
theorem xa_4 {l : Lc} {M : Md} {G : List Slot} {a b c d : Expr} {t u r s : Ty} (h : XE g l M G a t) (k : XE g l M G b u) (k2 : XE g l M G c r) (k3 : XE g l M G d s) (hs : ∀ env, starEach [a, b, c, d] env = (false, eval a env) :: starEach [b, c, d] env := by intro _; rfl) (hs2 : ∀ env, starEach [b, c, d] env = (false, eval b env) :: starEach [c, d] env := by intro _; rfl) (hs3 : ∀ env, starEach [c, d] env = (false, eval c env) :: starEach [d] env := by intro _; rfl) (hs4 : ∀ env, starEach [d] env = (false, eval d env) :: starEach [] env := by intro _; rfl) : XA g l M G [a, b, c, d] [t, u, r, s] := xa_cons h (xa_3 k k2 k3 hs2 hs3 hs4) hs
def BksD (bs : List Book) : Prop := ∃ hs vs, TabsOk 3 hs ∧ PoolOk 3 vs ∧ BksIn hs 4 vs bs
def NmD (ms : List Vl) : Prop := ms.length ≤ 3
def DdD (ds : List Nm) : Prop := ds.length ≤ 9 ∧ ∀ x ∈ ds, x ∈ deedsW
def datC : Cell := .lst [tEx BksD tBks, tEx NmD tVls, tEx DdD fun ds => tTu (ds.map tNm)]
def v5 : Vl := ⟨.inl 5, rfl⟩
def vq : Vl := ⟨.inr "q", by decide +kernel⟩
theorem IsM.gd {q : Stq} {P : Addr} {M : Md} (h : IsM q P M) (D : Addr) : IsM q P (M.gd D) := ⟨h.st.dom, h.tb.dom⟩
abbrev FnData (g : Gc) (P : Addr) := Fn g "_law_data" 4 (Spf (fun (q : Stq) M => IsM q P M) (fun q => [q.ty g, tNt 3, tNt 3, tNt 4]) (fun _ => datC))
theorem ok_law_data {P : Addr} (b : Gb g) (F : Df g "_law_data" (top 64)) (F1 : FnTake g) (F2 : FnTables g) (F3 : FnPool g) (F4 : FnLbooks g P) : FnData g P := by
  refine fn_mkF (N := ["_law_state", "_law_wide", "_law_values", "_law_most", "_law_words", "_law_all_words", "_law_tables_here", "_law_pool_here", "_law_marked", "_law_value", "_law_chosen", "_law_one"]) (ps := ["_law_state", "_law_wide", "_law_values", "_law_most"]) F ⟨rfl, rfl, rfl, by decide +kernel, rfl, by decide +kernel, by decide +kernel⟩ (fun _ => rfl) (by decide) (fun _ _ _ _ _ _ us hl => match us, hl with | [_, _, _, _], _ => rfl) (fun _ _ _ h => h.dom) fun q M S_0 H_0 hM => ?_
  have hM : IsM q P M := hM
  refine xb_set 4 (t := tLs (deedsW.map tNm)) (x_lst (xa_cons x_str (xa_cons x_str (xa_cons x_str (xa_cons x_str (xa_cons x_str (xa_cons x_str (xa_cons x_str (xa_cons x_str (xa_cons x_str xa_nil)))))))))) ?_
  refine xb_set 5 (t := tBX) (x_gtX (x_sub (x_take F1 hM.st (n := 3) (by decide) (x_var 0) x_int) tk_sub) (x_intX (p := anyI) trivial)) ?_
  refine xb_set 6 (t := tEx (TabsOk 3) fun hs => tLs (hs.map tHd)) (x_callI F2 ⟨(q, 3), (by decide : 1 ≤ 3), (by decide : 3 ≤ 1000)⟩ (xa_2 (x_var 0) (x_var 1)) hM.st) (xb_open 6 rfl fun hs hhs => ?_)
  refine xb_set 7 (t := tEx (PoolOk 3) fun vs => tLs (vs.map tVl)) (x_call (ts := [q.ty g, tIi fun i => 1 ≤ i ∧ i ≤ 3]) F3 (by decide) (xa_2 (x_var 0) (x_addX (x_intX (p := fun i => i = 1) rfl) (x_sub (x_take F1 hM.st (n := 3) (by decide) (x_var 0) (x_var 2)) tk_sub) fun i j h1 h2 => ⟨by omega, by omega⟩)) fun S vs h => ?_) (xb_open 7 rfl fun vs hvs => ?_)
  · obtain ⟨v, w, rfl, k1, i, ⟨k2, k3⟩, k4⟩ := h.two
    obtain ⟨n, rfl⟩ : ∃ n : Nat, i = (n : Int) := ⟨i.toNat, by omega⟩
    exact ⟨⟨(q, n), by show 1 ≤ n; omega, by show n ≤ 1000; omega⟩, hM.st, .cons k1 (.cons k4 .nil), fun S v ⟨ws, ⟨h1, h2⟩, h3⟩ => ⟨ws, ⟨h1, by have h2 : ws.length ≤ n := h2; omega⟩, h3⟩⟩
  obtain ⟨u1, u2⟩ := hvs
  refine xb_set 8 (t := tEx NmD fun ms => tLs (ms.map tVl)) (x_sub (x_slLE (k := 3) (x_lcF (κ := Unit) (own := [("_law_value", 9)]) (vs := [9]) (P := fun _ : Vl => True) (T := tVl) (G1 := fun _ i => match (vs ++ [v5, vq])[i]? with
    | some v => [.ty (q.ty g), .ty (tNt 3), .ty (tNt 3), .ty (tNt 4), .ty (tLs (deedsW.map tNm)), .ty tBX, .ty (tLs (hs.map tHd)), .ty (tLs (vs.map tVl)), .unk, .ty (tVl v), .unk, .unk]
    | none => []) rfl (xix_of (xi_list (x_cat2 (xs := vs) (ys := [v5, vq]) (x_var 7) (x_lst (ts := [tVl v5, tVl vq]) (xa_cons x_int (xa_cons x_str xa_nil))) (by show vs.length + 2 ≤ _; omega)))) (blkOk_by (by decide +kernel)) (fun _ _ => ?_) (fun _ i t _ hit => ?_) (fun _ i t _ hit => ?_) (fun _ i t _ hit => ?_)) x_int) ?_) (xb_open 8 rfl fun ms hms => ?_)
  · rw [List.length_map, List.length_append]; show vs.length + 2 ≤ _; omega
  · obtain ⟨v, hv, _, rfl⟩ := map_get hit
    rw [hv]
    exact xg_name 9
  · obtain ⟨v, hv, _, rfl⟩ := map_get hit
    rw [hv]
    exact xts_one (xt_eqX (x_sub (x_take F1 hM.st (n := 3) (by decide) (x_var 0) x_int) tk_sub) (x_intX (p := anyI) trivial))
  · obtain ⟨v, hv, _, rfl⟩ := map_get hit
    rw [hv]
    exact x_sub (x_var 9) fun S w h => ⟨v, trivial, h⟩
  · intro S v ⟨ys, _, h⟩
    have h : (tLs ((ys.map tVl).take 3)).is S v := h
    rw [← List.map_take] at h
    exact ⟨ys.take 3, by show (ys.take 3).length ≤ 3; rw [List.length_take]; omega, h⟩
  refine xb_setN 10 (xs := deedsW) (U := tNm) (own := [("_law_one", 11)]) (vs := [11]) (P := fun w : Nm => w ∈ deedsW) (T := tNm) (G1 := fun w => [.ty (q.ty g), .ty (tNt 3), .ty (tNt 3), .ty (tNt 4), .ty (tLs (deedsW.map tNm)), .ty tBX, .ty (tLs (hs.map tHd)), .ty (tLs (vs.map tVl)), .ty (tLs (ms.map tVl)), .unk, .unk, .ty (tNm w)]) rfl (xi_list (x_var 4)) (blkOk_by (by decide +kernel)) (by decide) (fun D w _ => xg_name 11)
    (fun D w _ => xts_one (xt_sub (xw_t (xw_or (c := fun _ => True) (d := fun _ => True) (xt_val (x_var 5)) fun _ => xw_or1 (xt_eqX (x_sub (x_take F1 (hM.gd D).st (n := 2) (by decide) (x_var 0) x_int) tk_sub) (x_intX (p := anyI) trivial)))) fun _ _ => trivial)) (fun D w hw => x_sub (x_var 11) fun S v h => ⟨w, hw, h⟩) fun ds hd1 hd2 => ?_
  have hds : DdD ds := ⟨hd1, hd2⟩
  have bq : BqOk hs vs 4 := ⟨Nat.le_trans hhs.n3 (by decide), fun h hh => Nat.le_trans (hhs.col h hh).2 (by decide), u1, by omega, by decide⟩
  refine xb_retF (xf_lst (ts := [tEx BksD tBks, tEx NmD tVls, tEx DdD fun ds => tTu (ds.map tNm)]) (xa_3 (x_sub (x_callI F4 ⟨q, hs, vs, 4, bq⟩ (xa_4 (x_var 0) (x_var 6) (x_var 7) (x_var 3)) hM) ?_) (x_sub (x_tupL (x_var 8) b.tuple) ?_) (x_sub (x_tupL (x_var 10) b.tuple) ?_)))
  · exact fun S v ⟨bs, h1, h2⟩ => ⟨bs, ⟨hs, vs, hhs, ⟨u1, u2⟩, h1⟩, h2⟩
  · exact fun S v h => ⟨ms, hms, h⟩
  · exact fun S v h => ⟨ds, hds, h⟩
end Z
end

section
/-! T36: the law's sheets, in plain words; rules for things of some kind. -/
namespace Z
open PySem PySem.Spec L2 PySem.W ZL
variable {g : Gc}
def GoodM (nm : List Vl) (m : Mark) : Prop := ∀ v, m = .is v → v ∈ nm
structure ShOk (hs : List (Nm × Nat)) (nm : List Vl) (s : Sheet) (n : Nat) : Prop where
  ln : s.2.length ≤ 5
  tab : ∀ l ∈ s.2, (l.1, l.2.length) ∈ hs
  nums : NumsN s.2 n
  h1 : 1 ≤ s.1.length
  h3 : s.1.length ≤ 3
  cov : ∀ k, Mark.any k ∈ s.1 → ∃ l ∈ s.2, Mark.any k ∈ l.2
  gh : ∀ m ∈ s.1, GoodM nm m
  gl : ∀ l ∈ s.2, ∀ m ∈ l.2, GoodM nm m
theorem marksOf_mem {ls : List Line} {m : Mark} : m ∈ marksOf ls ↔ ∃ l ∈ ls, m ∈ l.2 := List.mem_flatMap
theorem numsOf_mem {ls : List Line} {k : Int} : k ∈ numsOf ls ↔ ∃ j : Nat, k = (j : Int) ∧ ∃ l ∈ ls, Mark.any j ∈ l.2 := by
  unfold numsOf
  rw [List.mem_map]
  constructor
  · rintro ⟨m, hm, rfl⟩
    obtain ⟨h1, h2⟩ := List.mem_filter.mp hm
    cases m with
    | any j => exact ⟨j, rfl, marksOf_mem.mp h1⟩
    | is v => cases h2
  · rintro ⟨j, rfl, h⟩
    exact ⟨.any j, List.mem_filter.mpr ⟨marksOf_mem.mpr h, rfl⟩, rfl⟩
theorem marksOf_len {ls : List Line} {w : Nat} (h : ∀ l ∈ ls, l.2.length ≤ w) : (marksOf ls).length ≤ ls.length * w := by
  induction ls with
  | nil => simp [marksOf]
  | cons l ls ih =>
    have h1 := ih fun x hx => h x (List.mem_cons_of_mem _ hx)
    have h2 := h l (List.mem_cons_self ..)
    show (List.flatMap _ (l :: ls)).length ≤ _
    rw [List.flatMap_cons, List.length_append, List.length_cons, Nat.succ_mul]
    have h1 : (List.flatMap (fun l : Line => l.2) ls).length ≤ ls.length * w := h1
    omega
theorem plc_lt : ∀ {xs : List Int} {k : Int}, k ∈ xs → plc xs k < xs.length := fun {xs k} h => (List.getElem?_eq_some_iff.mp (plc_at h)).1
theorem plc_of {xs : List Int} (hn : xs.Nodup) {i : Nat} {k : Int} (h : xs[i]? = some k) : plc xs k = i := by
  have h2 := plc_at (List.mem_of_getElem? h)
  obtain ⟨l1, e1⟩ := List.getElem?_eq_some_iff.mp h
  obtain ⟨l2, e2⟩ := List.getElem?_eq_some_iff.mp h2
  by_cases z : plc xs k < i
  · exact absurd (e2.trans e1.symm) (List.pairwise_iff_getElem.mp hn _ _ l2 l1 z)
  · by_cases y : i < plc xs k
    · exact absurd rfl (plc_no i k y h)
    · omega
theorem srt_nodup {ns ms : List Int} (h : Srt ns ms) : ms.Nodup := h.1.imp fun h e => by omega
theorem rnM_any {ms : List Int} {m : Mark} {k : Nat} (h : rnM ms m = .any k) : ∃ j, m = .any j ∧ k = plc ms (j : Int) := by
  cases m with
  | any j => exact ⟨j, rfl, (Mark.any.inj h).symm⟩
  | is v => cases h
theorem rnM_is {ms : List Int} {m : Mark} {v : Vl} (h : rnM ms m = .is v) : m = .is v := by
  cases m with
  | any j => cases h
  | is w => exact h
theorem prOf_mem {ms : List Int} {hd : List Mark} {ls : List Line} {x : Line} : x ∈ (prOf ms hd ls).2 ↔ ∃ l ∈ ls, x = rnL ms l := by
  show x ∈ List.mergeSort _ _ ↔ _
  rw [(List.mergeSort_perm _ _).mem_iff, onceL_mem, List.mem_map]
  exact ⟨fun ⟨l, h, e⟩ => ⟨l, h, e.symm⟩, fun ⟨l, h, e⟩ => ⟨l, h, e.symm⟩⟩
structure RawOk (hs : List (Nm × Nat)) (nm : List Vl) (hd : List Mark) (ls : List Line) : Prop where
  ln : ls.length ≤ 5
  col : ∀ h ∈ hs, h.2 ≤ 3
  tab : ∀ l ∈ ls, (l.1, l.2.length) ∈ hs
  h1 : 1 ≤ hd.length
  h3 : hd.length ≤ 3
  cov : ∀ k, Mark.any k ∈ hd → k ∈ lawNums ls
  gh : ∀ m ∈ hd, GoodM nm m
  gl : ∀ l ∈ ls, ∀ m ∈ l.2, GoodM nm m
theorem RawOk.pr {hs : List (Nm × Nat)} {nm : List Vl} {hd : List Mark} {ls : List Line} (h : RawOk hs nm hd ls) : PrOk hd ls :=
  ⟨⟨Nat.le_trans h.ln (by decide), fun l hl => Nat.le_trans (h.col _ (h.tab l hl)) (by decide)⟩, Nat.le_trans h.h3 (by decide), h.cov⟩
theorem prOf_ok {hs : List (Nm × Nat)} {nm : List Vl} {hd : List Mark} {ls : List Line} {ms : List Int} (h : RawOk hs nm hd ls) (hS : Srt (numsI ls) ms) : ShOk hs nm (prOf ms hd ls) ms.length := by
  have hin : ∀ k : Nat, (k : Int) ∈ ms ↔ k ∈ lawNums ls := fun k => by
    rw [hS.2]
    unfold numsI
    rw [List.mem_map]
    exact ⟨fun ⟨j, hj, e⟩ => by rw [show k = j by omega]; exact hj, fun z => ⟨k, z, rfl⟩⟩
  have len : (prOf ms hd ls).2.length ≤ ls.length := by
    show (List.mergeSort _ _).length ≤ _
    rw [List.length_mergeSort]
    exact Nat.le_trans onceL_len (by rw [List.length_map]; exact Nat.le_refl _)
  have wd : ∀ l ∈ (prOf ms hd ls).2, (l.1, l.2.length) ∈ hs := fun x hx => by
    obtain ⟨l, hl, rfl⟩ := prOf_mem.mp hx
    show (l.1, (l.2.map (rnM ms)).length) ∈ hs
    rw [List.length_map]
    exact h.tab l hl
  have m3 := marksOf_len (w := 3) fun l hl => h.col _ (wd l hl)
  have l5 := h.ln
  refine ⟨by omega, wd, ⟨by omega, fun k => ?_⟩, by show 1 ≤ (hd.map _).length; rw [List.length_map]; exact h.h1, by show (hd.map _).length ≤ 3; rw [List.length_map]; exact h.h3, fun k hk => ?_, fun m hm v e => ?_, fun x hx m hm v e => ?_⟩
  · rw [numsOf_mem]
    constructor
    · rintro ⟨j, rfl, x, hx, hm⟩
      obtain ⟨l, hl, rfl⟩ := prOf_mem.mp hx
      obtain ⟨m, hm3, e⟩ := List.mem_map.mp hm
      obtain ⟨i, rfl, rfl⟩ := rnM_any e
      have hm := hm3
      have := plc_lt ((hin i).mpr (lawNums_mem.mpr ⟨l, hl, hm⟩))
      exact ⟨by omega, by omega⟩
    · rintro ⟨k0, k1⟩
      obtain ⟨i, rfl⟩ : ∃ i : Nat, k = (i : Int) := ⟨k.toNat, by omega⟩
      have hi : i < ms.length := by omega
      have hit : ms[i]? = some ms[i] := List.getElem?_eq_getElem hi
      have hmem := (hS.2 ms[i]).mp (List.getElem_mem hi)
      obtain ⟨j, hj, e⟩ := List.mem_map.mp hmem
      obtain ⟨l, hl, hm⟩ := lawNums_mem.mp hj
      rw [← e] at hit
      exact ⟨i, rfl, rnL ms l, prOf_mem.mpr ⟨l, hl, rfl⟩, List.mem_map.mpr ⟨.any j, hm, by show Mark.any (plc ms (j : Int)) = _; rw [plc_of (srt_nodup hS) hit]⟩⟩
  · obtain ⟨m, hm, e⟩ := List.mem_map.mp hk
    obtain ⟨i, rfl, rfl⟩ := rnM_any e
    obtain ⟨l, hl, hm2⟩ := lawNums_mem.mp (h.cov i hm)
    exact ⟨rnL ms l, prOf_mem.mpr ⟨l, hl, rfl⟩, List.mem_map.mpr ⟨.any i, hm2, rfl⟩⟩
  · obtain ⟨m', hm', e'⟩ := List.mem_map.mp hm
    exact h.gh m' hm' v (rnM_is (e'.trans e))
  · obtain ⟨l, hl, rfl⟩ := prOf_mem.mp hx
    obtain ⟨m', hm', e'⟩ := List.mem_map.mp hm
    exact h.gl l hl m' hm' v (rnM_is (e'.trans e))
/-! rules -/
section
variable {ι α : Type} {l : Lc} {M : Md} {B S_0 H_0 : Hp} {G : List Slot} {pos p p1 p2 tpos : Pos} {a b c e tg : Expr} {es : List Expr} {t u : Ty} {ts : List Ty} {rest : List Stmt} {D : Ends} {q : ι → Prop} {f : ι → Ty} {vs : List Nat}
/-- target = e, e of some kind -/
theorem xb_asgX {G1 : ι → List Slot} (he : XE g l M G e (tEx q f)) (hg : ∀ j, q j → XG g l M G vs tg (f j) (G1 j)) (k : ∀ j, q j → XB g l (Ct M B S_0 H_0 (G1 j)) rest D) (hs : ∀ env, swapsWithSole [tg] e pos.line env = pure false := by intro _; rfl) (hw : ∀ env, swappedStores [tg] e env = pure none := by intro _; rfl)
    (h1 : ∀ env, (assignEach [tg] env).map (·.2) = [assign tg env] := by intro _; rfl) : XB g l (Ct M B S_0 H_0 G) (.Assign [tg] e pos :: rest) D :=
  xb_cons (fun σ H => ∃ j : { j // q j }, Ct M B S_0 H_0 (G1 j.1) σ H) (fun X A =>
    convS (ps_asg (g := fun v σ H Q => ∃ j, q j ∧ tG M G vs (f j) (G1 j) v σ H Q) (he X A) ⟨fun pins s σ H v w Q I r ⟨j, hj, h⟩ => (hg j hj X A).run pins s σ H v w Q I r h⟩ (hs _) (hw _) (h1 _)) fun D' σ H ⟨c, le⟩ => by
      obtain ⟨S, c1, c2, pr⟩ := c.get
      exact tE.step pr fun v S1 H1 q1 p1 ⟨j, hj, hv⟩ => ⟨j, hj, S1, p1, hv, fun σ' p2 _ _ => le.nx _ _ ⟨⟨j, hj⟩, .of (c1.comp q1.1.ss) (c2.trans q1.1) p2⟩⟩) (xb_ex fun j => k j.1 j.2)
/-- a list of some kind, and more -/
theorem x_catX {T : α → Ty} {q : List α → Prop} {xs : List α} (ha : XE g l M G a (tEx q fun ys => tLs (ys.map T))) (hb : XE g l M G b (tLs (xs.map T))) (hl : ∀ ys, q ys → ys.length + xs.length ≤ 100000) : XE g l M G (.BinOp a .Add b pos) (tEx (fun zs => ∃ ys, q ys ∧ zs = ys ++ xs) fun zs => tLs (zs.map T)) :=
  x_op (t := tEx q fun ys => tLs (ys.map T)) (u := tLs (xs.map T)) (f := rCat) (fun X A => op_cat) (R2T.ex1 fun ys hys => fun S H x y Q e ⟨c, vs, h1, h2, h3⟩ ⟨d, ws, k1, k2, k3⟩ k => by
    subst h1 k1
    refine ⟨c, d, vs, ws, rfl, rfl, e _ _ h2, e _ _ k2, ?_, fun w hw => ?_⟩
    · have := hl ys hys
      have e1 := h3.len
      have e2 := k3.len
      rw [List.length_map] at e1 e2
      rw [← e1, ← e2]; exact Nat.le_trans this (by decide)
    · have gr := Gr.new (o := .lst (vs ++ ws)) e hw
      exact k _ _ _ gr ⟨ys ++ xs, ⟨ys, hys, rfl⟩, w, _, rfl, upd_same, by rw [List.map_append]; exact (h3.mono gr.ss).app (k3.mono gr.ss)⟩) ha hb
end
end Z
end

section
/-! T37: _law_some_sheet. -/
namespace Z
open PySem PySem.Spec L2 PySem.W ZL
variable {g : Gc}
theorem sw_no {C : Expr} {y : Str} {py : Pos} {ln : Nat} {sc : Scope} {env : PySem.Env} (h : ∀ env : PySem.Env, swapsWith C (some (.Name y py)) ln env = pure (env.blockKind == .function && env.kindOf y == some .local && py.line == C.pos.line && !(sc.names.any fun (n, k) => n == y && (k == .local || k == .cell)))) (hy : env.scope.names.lookup y = some .cell) : swapsWith C (some (.Name y py)) ln env = pure false := by
  have ky : env.kindOf y = some .cell := hy
  rw [h, ky]
  cases env.blockKind == ScopeKind.function <;> rfl
section
variable {ι α : Type} {l : Lc} {M : Md} {B S_0 H_0 : Hp} {G : List Slot} {pos p py spos : Pos} {tg iter elt e : Expr} {ifs : List Expr} {scope : Scope} {own : List (Str × Nat)} {vs : List Nat} {rest : List Stmt} {D : Ends} {q : ι → Prop} {c : ι → Cell} {xs : List α} {T U : α → Ty} {G1 : α → List Slot}
theorem xc_L {f : α → Bool} (hvs : vs = own.map (·.2)) (hi : XI g l M G tg iter (xs.map T)) (ok : BlkOk l.N l.sc scope own) (hz : xs.length ≤ 50000) (hg : ∀ D x, x ∈ xs → XG g (l.blk scope) (M.gd D) (wipeG G vs) vs tg (T x) (G1 x)) (ht : ∀ D x, x ∈ xs → XTs g (l.blk scope) (M.gd D) (G1 x) ifs (fun b => b = f x))
    (he : ∀ D x, x ∈ xs → f x = true → XE g (l.blk scope) (M.gd D) (G1 x) elt (U x)) (hs : ∀ env x, foldedSetIterable iter env x = pure x := by intro _ _; rfl) : XC g l M G (.ListComp elt [⟨tg, iter, ifs, 0⟩] scope pos) (Cell.con (.lst ((xs.filter f).map U))) := by
  have h := xc_any (pos' := firstIterPos [⟨tg, iter, ifs, 0⟩] pos) hvs rfl (fun _ => rfl) beg_L hi ok (yc_L hg ht he hz) (fun X A D => cl_L) hs (C := .ListComp elt [⟨tg, iter, ifs, 0⟩] scope pos)
  rw [take_all] at h
  exact h
theorem xb_ownS (i : Nat) {x : Str} (he : XF g l M G e q c) (hs : ∀ X, At g l X → swapsWith e (some (.Name x p)) pos.line X.env = pure false) (k : ∀ j p, q j → XB g l (Ct M B S_0 H_0 (G.set i (.own p (c j)))) rest D) (hN : l.N[i]? = some x := by rfl) (hx : Loc l.sc x := by first | exact Or.inl rfl | exact Or.inr rfl) (hf : l.fn x = true ∨ l.sc.names.lookup x = some .local := by first | exact Or.inl rfl | exact Or.inr rfl) :
    XB g l (Ct M B S_0 H_0 G) (.Assign [.Name x p] e pos :: rest) D :=
  xb_cons (fun σ H => ∃ jp : { jp : ι × Addr // q jp.1 }, Ct M B S_0 H_0 (G.set i (.own jp.1.2 (c jp.1.1))) σ H) (fun X A =>
    convS (ps_set (by rw [A.N]; exact A.nd) (by rw [A.N]; exact hN) (A.loc hx) (he X A) (hs X A) (A.sto hf)) fun D' σ H ⟨ct, le⟩ => tF_asg (N := D'.nx) ct fun j p σ H hj ct' => le.nx _ _ ⟨⟨(j, p), hj⟩, ct'⟩) (xb_ex fun jp => k jp.1.1 jp.1.2 jp.2)
end
structure HsOk (hs : List (Nm × Nat)) (nm : List Vl) : Prop where
  n1 : 1 ≤ hs.length
  n3 : hs.length ≤ 3
  col : ∀ h ∈ hs, 1 ≤ h.2 ∧ h.2 ≤ 3
  v1 : 1 ≤ nm.length
  v3 : nm.length ≤ 3
abbrev tShX (hs : List (Nm × Nat)) (nm : List Vl) : Ty := tEx (fun z : Sheet × Nat => ShOk hs nm z.1 z.2) fun z => tSh z.1
structure Ssq where
  s : Stq
  hs : List (Nm × Nat)
  nm : List Vl
  ok : HsOk hs nm
def PoolS (nm : List Vl) (ms : List Mark) : Prop := 1 ≤ ms.length ∧ ms.length ≤ 10 ∧ ∀ m ∈ ms, GoodM nm m
theorem sub_any {i : Nat} {nm : List Vl} : Sub (tTu [tSt "any", tIn (0 + (i : Nat))]) (tEx (GoodM nm) tMk) := fun S v h => ⟨.any i, (fun w e => nomatch e), by rw [Int.zero_add] at h; exact h⟩
theorem is_list {nm : List Vl} {n : Nat} : tLs ((nm.take n).map fun v => tMk (.is v)) = tLs (((nm.take n).map Mark.is).map tMk) := by rw [List.map_map]; rfl
theorem good_is {nm : List Vl} {n : Nat} {m : Mark} (h : m ∈ (nm.take n).map Mark.is) : GoodM nm m := fun v e => by
  obtain ⟨w, hw, rfl⟩ := List.mem_map.mp h
  cases e
  exact List.mem_of_mem_take hw
abbrev gSs (g : Gc) (q : Stq) (hs : List (Nm × Nat)) (nm : List Vl) (pool : List Mark) (s5 s7 s8 s9 s10 s11 s12 s13 : Slot) : List Slot := [.ty (q.ty g), .ty (tLs (hs.map tHd)), .ty (tVls nm), .ty (tNt 4), .ty (tLs (pool.map tMk)), s5, .unk, s7, s8, s9, s10, s11, s12, s13]
abbrev FnSome (g : Gc) (P : Addr) := Fn g "_law_some_sheet" 5 (Spc (fun (q : Ssq) M => IsM q.s P M) (fun q => [q.s.ty g, tLs (q.hs.map tHd), tVls q.nm, tNt 4]) (fun q => tShX q.hs q.nm))
structure LnIn (hs : List (Nm × Nat)) (pool : List Mark) (l : Line) : Prop where
  t : (l.1, l.2.length) ∈ hs
  m : ∀ m ∈ l.2, m ∈ pool
structure SomeI (hs : List (Nm × Nat)) (nm : List Vl) (pool : List Mark) (i : Nat) (z : List Line × List Mark) : Prop where
  l : z.1.length = i
  ln : ∀ l ∈ z.1, LnIn hs pool l
  s1 : 1 ≤ z.2.length
  s2 : z.2.length ≤ 1 + 3 * i
  sg : ∀ m ∈ z.2, GoodM nm m
  sc : ∀ k, Mark.any k ∈ z.2 → ∃ l ∈ z.1, Mark.any k ∈ l.2
theorem ok_some_sheet {P : Addr} (b : Gb g) (F : Df g "_law_some_sheet" (top 71)) (F1 : FnTake g) (F2 : FnPr g) : FnSome g P := by
  refine fn_mk (N := ["_law_state", "_law_tables_here", "_law_values", "_law_most", "_law_pool_here", "_law_k", "_law_value", "_law_lines", "_law_some", "_law_name", "_law_columns", "_law_marks", "_law_c", "_law_head"]) (ps := ["_law_state", "_law_tables_here", "_law_values", "_law_most"]) F ⟨rfl, rfl, rfl, by decide +kernel, rfl, by decide +kernel, by decide +kernel⟩ (fun _ => rfl) (by decide) (fun _ _ _ _ _ _ us hl => match us, hl with | [_, _, _, _], _ => rfl) (fun _ _ _ h => h.dom) fun q M S_0 H_0 hM => ?_
  obtain ⟨q, hs, nm, ok⟩ := q
  have hM : IsM q P M := hM
  have n1 := ok.n1
  have n3 := ok.n3
  have v1 := ok.v1
  have v3 := ok.v3
  refine xb_set 4 (t := tEx (PoolS nm) fun ms => tLs (ms.map tMk)) (x_sub (x_catX (T := tMk) (xs := (nm.take 2).map Mark.is) (x_lcS (own := [("_law_k", 5)]) (vs := [5]) (P := GoodM nm) (T := tMk) (G1 := fun _ i => [.ty (q.ty g), .ty (tLs (hs.map tHd)), .ty (tVls nm), .ty (tNt 4), .unk, .ty (tIn (0 + (i : Nat))), .unk, .unk, .unk, .unk, .unk, .unk, .unk, .unk]) rfl
    (xix_rng (q := fun i => 1 ≤ i ∧ i ≤ 4) (x_addX (x_intX (p := fun i => i = 1) rfl) (x_sub (x_take F1 hM.st (n := 4) (by decide) (x_var 0) x_int) tk_sub) fun i j h1 h2 => ⟨by omega, by omega⟩) (fun i h => ⟨by omega, by omega⟩) b.range) (blkOk_by (by decide +kernel)) (fun n hn => by rw [rngT_len]; omega) (fun n i t hn hit => by obtain ⟨_, rfl⟩ := rngT_get hit; exact xg_name 5) fun n i t hn hit => x_sub (x_tup (ts := [tSt "any", tIn (0 + (i : Nat))]) (xa_2 x_str (x_var 5))) sub_any)
    (x_ty (x_lcA (xs := nm.take 2) (own := [("_law_value", 6)]) (vs := [6]) (T := tVl) (U := fun v => tMk (.is v)) (G1 := fun v => [.ty (q.ty g), .ty (tLs (hs.map tHd)), .ty (tVls nm), .ty (tNt 4), .unk, .unk, .ty (tVl v), .unk, .unk, .unk, .unk, .unk, .unk, .unk]) (by rw [List.map_take]; exact xi_tup (x_slT_to (k := 2) (x_var 2) x_int)) rfl (blkOk_by (by decide +kernel)) (by rw [List.length_take]; omega) (fun v _ => xg_name 6) fun v _ => x_tup (ts := [tSt "is", tVl v]) (xa_2 x_str (x_var 6))) is_list) fun ys hys => ?_) ?_) (xb_open 4 rfl fun pool hp => ?_)
  · obtain ⟨⟨n, hn, e⟩, _⟩ := hys
    rw [rngT_len] at e
    rw [List.length_map, List.length_take]
    omega
  · rintro S v ⟨zs, ⟨ys, ⟨⟨n, hn, e⟩, h2⟩, rfl⟩, h3⟩
    rw [rngT_len] at e
    refine ⟨ys ++ (nm.take 2).map Mark.is, ⟨by rw [List.length_append]; omega, by rw [List.length_append, List.length_map, List.length_take]; omega, fun m hm => ?_⟩, h3⟩
    rcases List.mem_append.mp hm with hm | hm
    · exact h2 m hm
    · exact good_is hm
  obtain ⟨p1, p2, p3⟩ := hp
  refine xb_newL 7 fun P1 => ?_
  refine xb_ownS 8 (xf_of (xc_L (own := [("_law_value", 6)]) (vs := [6]) (T := tVl) (U := fun v => tMk (.is v)) (f := fun _ => true) (xs := nm.take 1) (G1 := fun v => [.ty (q.ty g), .ty (tLs (hs.map tHd)), .ty (tVls nm), .ty (tNt 4), .ty (tLs (pool.map tMk)), .unk, .ty (tVl v), .own P1 (.lst []), .unk, .unk, .unk, .unk, .unk, .unk]) rfl (by rw [List.map_take]; exact xi_tup (x_slT_to (k := 1) (x_var 2) x_int)) (blkOk_by (by decide +kernel)) (by rw [List.length_take]; omega) (fun D v _ => xg_name 6) (fun D v _ => xts_nil) fun D v _ _ => x_tup (ts := [tSt "is", tVl v]) (xa_2 x_str (x_var 6)))) (fun X A => sw_no (fun _ => rfl) (by rw [A.sc]; rfl)) fun _ P2 _ => ?_
  rw [List.filter_eq_self.mpr fun _ _ => rfl, show ((nm.take 1).map fun v => tMk (.is v)) = ((nm.take 1).map Mark.is).map tMk by rw [List.map_map]; rfl]
  refine xb_forX (κ := Nat) (q := fun n => 0 ≤ (n : Int) ∧ (n : Int) < 5) (f := fun n => rngT 0 n) (fun n i (z : List Line × List Mark) => SomeI hs nm pool i z)
    (fun n i z => gSs g q hs nm pool .unk (.own P1 (.lst (z.1.map tLn))) (.own P2 (.lst (z.2.map tMk))) .unk .unk .unk .unk .unk) (G1 := fun n i z => gSs g q hs nm pool (.ty (tIn (0 + (i : Nat)))) (.own P1 (.lst (z.1.map tLn))) (.own P2 (.lst (z.2.map tMk))) .unk .unk .unk .unk .unk) (vs := [5])
    (xix_rng (q := fun i => 0 ≤ i ∧ i < 5) (x_sub (x_take F1 hM.st (n := 5) (by decide) (x_var 0) (x_isI (x_add (x_var 3) x_int) (by decide))) tk_sub) (fun i h => ⟨by omega, by omega⟩) b.range) (fun _ => ([], (nm.take 1).map Mark.is)) (fun n hn => ⟨rfl, (fun l hl => by cases hl), by rw [List.length_map, List.length_take]; omega, by rw [List.length_map, List.length_take]; omega, fun m hm => good_is hm, fun k hk => ?_⟩) (fun n hn => rfl) (fun n i z t hn hit iv => ?_) (fun n i z t B' hn hit iv _ => ?_) fun n z hn iv => ?_
  · obtain ⟨w, _, e⟩ := List.mem_map.mp hk
    cases e
  · obtain ⟨_, rfl⟩ := rngT_get hit
    exact xg_name 5
  · obtain ⟨hi, rfl⟩ := rngT_get hit
    have hn2 := hn.2
    obtain ⟨ls, so⟩ := z
    refine xb_asgX (q := fun h => h ∈ hs) (f := tHd) (vs := [9, 10]) (G1 := fun h => gSs g q hs nm pool (.ty (tIn (0 + (i : Nat)))) (.own P1 (.lst (ls.map tLn))) (.own P2 (.lst (so.map tMk))) (.ty (tNm h.1)) (.ty (tNt h.2)) .unk .unk .unk) (x_pick F1 hM.st b n1 (by omega) (fun _ => x_var 1) (x_var 0)) (fun h hh => xg_tup (xgs_cons (xg_name 9) (xgs_cons (xg_name 10) xgs_nil))) fun h hh => ?_
    have hc := (ok.col h hh).2
    refine xb_set 11 (t := tEx (fun ms : List Mark => ms.length = h.2 ∧ ∀ m ∈ ms, m ∈ pool) tMs) (x_sub (x_tupLX (x_lcS (own := [("_law_c", 12)]) (vs := [12]) (P := fun m => m ∈ pool) (T := tMk) (G1 := fun _ k => gSs g q hs nm pool (.ty (tIn (0 + (i : Nat)))) (.own P1 (.lst (ls.map tLn))) (.own P2 (.lst (so.map tMk))) (.ty (tNm h.1)) (.ty (tNt h.2)) .unk (.ty (tIn (0 + (k : Nat)))) .unk) rfl
      (xix_of (xi_rng (x_var 10) (by omega) (by omega) b.range)) (blkOk_by (by decide +kernel)) (fun _ _ => by rw [rngT_len, Int.toNat_natCast]; omega) (fun _ k t _ hit4 => by obtain ⟨_, rfl⟩ := rngT_get hit4; exact xg_name 12) fun _ k t _ hit4 => x_pick F1 hM.st b p1 (by omega) (fun _ => x_var 4) (x_var 0)) b.tuple) ?_) (xb_open 11 rfl fun ms hms => ?_)
    · intro S v ⟨ys, ⟨⟨_, _, k1⟩, k2⟩, k3⟩
      rw [rngT_len, Int.toNat_natCast] at k1
      exact ⟨ys, ⟨k1, k2⟩, k3⟩
    obtain ⟨m1, m2⟩ := hms
    have hl := iv.l
    have hs2 := iv.s2
    have hl : ls.length = i := hl
    have hs2 : so.length ≤ 1 + 3 * i := hs2
    refine xb_app (t := tLn (h.1, ms)) 7 rfl (x_tup (ts := [tNm h.1, tMs ms]) (xa_2 (x_var 9) (x_var 11))) (by rw [List.length_map]; omega) ?_
    refine xb_one (xs_ext (q := fun _ : Unit => True) (f := fun _ => ms.map tMk) 8 rfl (x_sub (x_lstT (x_var 11) b.list) fun S v h => ⟨(), trivial, h⟩) (fun _ _ => by rw [List.length_map, List.length_map]; omega) fun _ σ H _ ct => ⟨(ls ++ [(h.1, ms)], so ++ ms), ⟨by rw [List.length_append]; show ls.length + 1 = i + 1; omega, fun l hl => ?_, by rw [List.length_append]; have := iv.s1; show 1 ≤ so.length + ms.length; have : 1 ≤ so.length := iv.s1; omega, by show (so ++ ms).length ≤ _; rw [List.length_append]; omega, fun m hm => ?_, fun k hk => ?_⟩, ?_⟩)
    · rcases List.mem_append.mp hl with hl | hl
      · exact iv.ln l hl
      · rw [List.mem_singleton.mp hl]; exact ⟨by show (h.1, ms.length) ∈ hs; rw [m1]; exact hh, m2⟩
    · rcases List.mem_append.mp hm with hm | hm
      · exact iv.sg m hm
      · exact p3 m (m2 m hm)
    · rcases List.mem_append.mp hk with hk | hk
      · obtain ⟨l, h1, h2⟩ := iv.sc k hk
        exact ⟨l, List.mem_append_left _ h1, h2⟩
      · exact ⟨(h.1, ms), by simp, hk⟩
    · rw [List.map_append, List.map_append]
      exact ct.forget
  · rw [rngT_len] at iv
    have hn2 := hn.2
    obtain ⟨ls, so⟩ := z
    have hl : ls.length = n := iv.l
    have s1 : 1 ≤ so.length := iv.s1
    have s2 : so.length ≤ 1 + 3 * n := iv.s2
    refine xb_frz 7 rfl (xb_frz 8 rfl ?_)
    refine xb_if (Ct M S_0 S_0 H_0 (gSs g q hs nm pool .unk (.ty (tLs (ls.map tLn))) (.ty (tLs (so.map tMk))) .unk .unk .unk .unk .unk)) (xt_is (y := false) (xt_eqE encMk.lst (x := so) (y := []) (x_var 8) (x_lst xa_nil)) (decide_eq_false fun z => by rw [z] at s1; exact absurd s1 (by decide))) (fun h => nomatch h) (fun _ => xb_nil fun _ _ h => h) ?_
    refine xb_set 13 (t := tEx (fun hd : List Mark => (1 ≤ hd.length ∧ hd.length ≤ 3) ∧ ∀ m ∈ hd, m ∈ so) tMs) (x_sub (x_tupLX (x_lcS (own := [("_law_k", 5)]) (vs := [5]) (P := fun m => m ∈ so) (T := tMk) (G1 := fun _ k => gSs g q hs nm pool (.ty (tIn (0 + (k : Nat)))) (.ty (tLs (ls.map tLn))) (.ty (tLs (so.map tMk))) .unk .unk .unk .unk .unk) rfl
      (xix_rng (q := fun i => 1 ≤ i ∧ i ≤ 3) (x_addX (x_intX (p := fun i => i = 1) rfl) (x_sub (x_take F1 hM.st (n := 3) (by decide) (x_var 0) x_int) tk_sub) fun i j h1 h2 => ⟨by omega, by omega⟩) (fun i h => ⟨by omega, by omega⟩) b.range) (blkOk_by (by decide +kernel)) (fun n hn => by rw [rngT_len]; omega) (fun _ k t _ hit4 => by obtain ⟨_, rfl⟩ := rngT_get hit4; exact xg_name 5) fun _ k t _ hit4 => x_pick F1 hM.st b s1 (by omega) (fun _ => x_var 8) (x_var 0)) b.tuple) ?_) (xb_open 13 rfl fun hd hhd => ?_)
    · intro S v ⟨ys, ⟨⟨j, hj, k1⟩, k2⟩, k3⟩
      rw [rngT_len] at k1
      exact ⟨ys, ⟨⟨by omega, by omega⟩, k2⟩, k3⟩
    obtain ⟨⟨d1, d2⟩, d3⟩ := hhd
    have raw : RawOk hs nm hd ls := ⟨by omega, fun h hh => (ok.col h hh).2, fun l hl => (iv.ln l hl).t, d1, d2, fun k hk => lawNums_mem.mpr (iv.sc k (d3 _ hk)), fun m hm => iv.sg m (d3 m hm), fun l hl m hm => p3 m ((iv.ln l hl).m m hm)⟩
    exact xb_rt (x_callI F2 ⟨(hd, ls), raw.pr⟩ (xa_2 (x_var 13) (x_var 7)) trivial) (show Sub _ (tShX hs nm) from fun S v ⟨ms, h1, h2⟩ => ⟨(prOf ms hd ls, ms.length), prOf_ok raw h1, h2⟩)
end Z
end

section
/-! T38: _law_more_sheet. -/
namespace Z
open PySem PySem.Spec L2 PySem.W ZL
variable {g : Gc}
theorem numsI_mem {ls : List Line} {k : Int} : k ∈ numsI ls ↔ k ∈ numsOf ls := by
  rw [numsOf_mem]
  unfold numsI
  rw [List.mem_map]
  exact ⟨fun ⟨j, hj, e⟩ => ⟨j, e.symm, lawNums_mem.mp hj⟩, fun ⟨j, e, h⟩ => ⟨j, lawNums_mem.mpr h, e.symm⟩⟩
theorem NumsN.tyI {ls : List Line} {n : Nat} (h : NumsN ls n) : Sub (tEx (Srt (numsI ls)) fun ms => tLs (ms.map tIn)) (tRng n) := fun S v ⟨ms, h1, h2⟩ => by
  have e := srt_range (n := n) (fun k => by rw [numsI_mem]; exact h.mem k) h1
  subst e
  have : tLs (((List.range n).map fun k => ((k : Nat) : Int)).map tIn) = tLs ((List.range n).map tNt) := by
    rw [List.map_map]
    rfl
  have h2 : (tLs (((List.range n).map fun k => ((k : Nat) : Int)).map tIn)).is S v := h2
  rw [this] at h2
  exact h2
theorem ShOk.under {hs : List (Nm × Nat)} {nm : List Vl} {s : Sheet} {n : Nat} (h : ShOk hs nm s n) : ∀ l ∈ s.2, Under n l.2 := fun l hl k hk => by
  have := (h.nums.mem (k : Int)).mp (numsOf_mem.mpr ⟨k, rfl, l, hl, hk⟩)
  omega
theorem ShOk.underH {hs : List (Nm × Nat)} {nm : List Vl} {s : Sheet} {n : Nat} (h : ShOk hs nm s n) : Under n s.1 := fun k hk => by
  obtain ⟨l, hl, hm⟩ := h.cov k hk
  exact h.under l hl k hm
def v1 : Vl := ⟨.inl 1, rfl⟩
def putL (th : List Mark) (l : Line) : Line := (l.1, putBy th l.2)
def fixM (ls : List Line) : Mark → Mark
  | .is v => .is v
  | .any k => if k ∈ lawNums ls then .any k else .is v1
structure Smq where
  s : Stq
  hs : List (Nm × Nat)
  nm : List Vl
  sh : Sheet
  n : Nat
  ok : HsOk hs nm
  h1 : v1 ∈ nm
  sk : ShOk hs nm sh n
structure LnGd (hs : List (Nm × Nat)) (nm : List Vl) (l : Line) : Prop where
  t : (l.1, l.2.length) ∈ hs
  m : ∀ m ∈ l.2, GoodM nm m
abbrev FnBy (g : Gc) := Fn g "_law_by" 1 (Spp (fun q : Pb => [tMs q.1.1, tMs q.1.2]) (fun q => tMs (putBy q.1.1 q.1.2)))
abbrev FnMore (g : Gc) (P : Addr) := Fn g "_law_more_sheet" 5 (Spc (fun (q : Smq) M => IsM q.s P M) (fun q => [q.s.ty g, tSh q.sh, tLs (q.hs.map tHd), tVls q.nm]) (fun q => tShX q.hs q.nm))
abbrev gMs (g : Gc) (q : Stq) (sh : Sheet) (hs : List (Nm × Nat)) (nm : List Vl) (pool th : List Mark) (s5 s8 s9 s10 s11 s12 s13 s14 s15 : Slot) : List Slot := [.ty (q.ty g), .ty (tSh sh), .ty (tLs (hs.map tHd)), .ty (tVls nm), .ty (tLs (pool.map tMk)), s5, .unk, .ty (tMs th), s8, s9, s10, s11, s12, s13, s14, s15]
theorem putM_good {nm : List Vl} {th : List Mark} {m : Mark} (h : ∀ x ∈ th, GoodM nm x) (k : GoodM nm m) : GoodM nm (putM th m) := by
  cases m with
  | is v => exact k
  | any j =>
    show GoodM nm (th.getD j (.any j))
    rw [List.getD_eq_getElem?_getD]
    cases e : th[j]? with
    | none => exact k
    | some x => exact h x (List.mem_of_getElem? e)
theorem ok_more_sheet {P : Addr} (b : Gb g) (F : Df g "_law_more_sheet" (top 76)) (F1 : FnTake g) (F2 : FnPr g) (F3 : FnLnums g) (F4 : FnBy g) : FnMore g P := by
  refine fn_mk (N := ["_law_state", "_law_sheet", "_law_tables_here", "_law_values", "_law_pool_here", "_law_k", "_law_value", "_law_places", "_law_lines", "_law_name", "_law_marks", "_law_columns", "_law_c", "_law_numbers_here", "_law_head", "_law_mark"]) (ps := ["_law_state", "_law_sheet", "_law_tables_here", "_law_values"]) F ⟨rfl, rfl, rfl, by decide +kernel, rfl, by decide +kernel, by decide +kernel⟩ (fun _ => rfl) (by decide) (fun _ _ _ _ _ _ us hl => match us, hl with | [_, _, _, _], _ => rfl) (fun _ _ _ h => h.dom) fun q M S_0 H_0 hM => ?_
  obtain ⟨q, hs, nm, sh, n, ok, hv1, sk⟩ := q
  have hM : IsM q P M := hM
  have n1 := ok.n1
  have n3 := ok.n3
  have w1 := ok.v1
  have w3 := ok.v3
  have l5 := sk.ln
  have n15 : n ≤ 60 := by
    have h3 := marksOf_len (w := 3) fun l hl => (ok.col _ (sk.tab l hl)).2
    cases n with
    | zero => omega
    | succ m =>
      have e := srt_range (n := m + 1) (ms := (List.range (m + 1)).map fun k => ((k : Nat) : Int)) sk.nums.mem ⟨List.pairwise_map.mpr ((List.pairwise_lt_range (n := m + 1)).imp fun h => by omega), fun k => by
        rw [sk.nums.mem, List.mem_map]
        exact ⟨fun ⟨j, hj, e⟩ => by have := List.mem_range.mp hj; omega, fun ⟨a, b⟩ => ⟨k.toNat, List.mem_range.mpr (by omega), by omega⟩⟩⟩
      have := nodup_len (l := (List.range (m + 1)).map fun k => ((k : Nat) : Int)) (m := numsOf sh.2) (List.pairwise_map.mpr ((List.nodup_range (n := m + 1)).imp fun h e => h (by omega))) fun x hx => by
        obtain ⟨j, hj, rfl⟩ := List.mem_map.mp hx
        have := List.mem_range.mp hj
        exact (sk.nums.mem _).mpr ⟨by omega, by omega⟩
      rw [List.length_map, List.length_range] at this
      have l2 : (numsOf sh.2).length ≤ (marksOf sh.2).length := by
        unfold numsOf
        rw [List.length_map]
        exact List.length_filter_le ..
      have := sk.nums.few
      omega
  refine xb_set 4 (t := tEx (PoolS nm) fun ms => tLs (ms.map tMk)) (x_sub (x_catX (T := tMk) (xs := (nm.take 1).map Mark.is) (x_lcS (own := [("_law_k", 5)]) (vs := [5]) (P := GoodM nm) (T := tMk) (G1 := fun _ i => [.ty (q.ty g), .ty (tSh sh), .ty (tLs (hs.map tHd)), .ty (tVls nm), .unk, .ty (tIn (0 + (i : Nat))), .unk, .unk, .unk, .unk, .unk, .unk, .unk, .unk, .unk, .unk]) rfl
    (xix_rng (q := fun i => 1 ≤ i ∧ i ≤ 3) (x_addX (x_intX (p := fun i => i = 1) rfl) (x_sub (x_take F1 hM.st (n := 3) (by decide) (x_var 0) x_int) tk_sub) fun i j h1 h2 => ⟨by omega, by omega⟩) (fun i h => ⟨by omega, by omega⟩) b.range) (blkOk_by (by decide +kernel)) (fun n hn => by rw [rngT_len]; omega) (fun n i t hn hit => by obtain ⟨_, rfl⟩ := rngT_get hit; exact xg_name 5) fun n i t hn hit => x_sub (x_tup (ts := [tSt "any", tIn (0 + (i : Nat))]) (xa_2 x_str (x_var 5))) sub_any)
    (x_ty (x_lcA (xs := nm.take 1) (own := [("_law_value", 6)]) (vs := [6]) (T := tVl) (U := fun v => tMk (.is v)) (G1 := fun v => [.ty (q.ty g), .ty (tSh sh), .ty (tLs (hs.map tHd)), .ty (tVls nm), .unk, .unk, .ty (tVl v), .unk, .unk, .unk, .unk, .unk, .unk, .unk, .unk, .unk]) (by rw [List.map_take]; exact xi_tup (x_slT_to (k := 1) (x_var 3) x_int)) rfl (blkOk_by (by decide +kernel)) (by rw [List.length_take]; omega) (fun v _ => xg_name 6) fun v _ => x_tup (ts := [tSt "is", tVl v]) (xa_2 x_str (x_var 6))) is_list) fun ys hys => ?_) ?_) (xb_open 4 rfl fun pool hp => ?_)
  · obtain ⟨⟨n, hn, e⟩, _⟩ := hys
    rw [rngT_len] at e
    rw [List.length_map, List.length_take]
    omega
  · rintro S v ⟨zs, ⟨ys, ⟨⟨n, hn, e⟩, h2⟩, rfl⟩, h3⟩
    rw [rngT_len] at e
    refine ⟨ys ++ (nm.take 1).map Mark.is, ⟨by rw [List.length_append]; omega, by rw [List.length_append, List.length_map, List.length_take]; omega, fun m hm => ?_⟩, h3⟩
    rcases List.mem_append.mp hm with hm | hm
    · exact h2 m hm
    · exact good_is hm
  obtain ⟨p1, p2, p3⟩ := hp
  have nums : ∀ {G : List Slot} {pa pb pc pd : Pos} {kk : Nat}, G[1]? = some (.ty (tSh sh)) → XE g ⟨["_law_state", "_law_sheet", "_law_tables_here", "_law_values", "_law_pool_here", "_law_k", "_law_value", "_law_places", "_law_lines", "_law_name", "_law_marks", "_law_columns", "_law_c", "_law_numbers_here", "_law_head", "_law_mark"], defScope (top 76), 4, fun _ => true⟩ M G (.Subscript (.Name "_law_sheet" pa) (.Constant (.int 1) kk pb) pc) (tLns sh.2) := fun {G pa pb pc pd kk} h => x_ixT (n := 1) (x_var 1 h) x_int rfl
  refine xb_set 7 (t := tEx (fun th : List Mark => th.length = n ∧ ∀ m ∈ th, m ∈ pool) tMs) (x_sub (x_tupLX (x_lcS (own := [("_law_k", 5)]) (vs := [5]) (P := fun m => m ∈ pool) (T := tMk) (G1 := fun _ k => [.ty (q.ty g), .ty (tSh sh), .ty (tLs (hs.map tHd)), .ty (tVls nm), .ty (tLs (pool.map tMk)), .ty (tIn (0 + (k : Nat))), .unk, .unk, .unk, .unk, .unk, .unk, .unk, .unk, .unk, .unk]) rfl
    (xix_of (xi_rng (n := (n : Int)) (x_ty (x_lenL (x_sub (x_callI F3 ⟨(false, sh.2), ⟨by show sh.2.length ≤ 10; omega, fun l hl => Nat.le_trans (ok.col _ (sk.tab l hl)).2 (by decide)⟩⟩ (xa_1 (x_ixT (n := 1) (t := tLns sh.2) (x_var 1) x_int rfl)) trivial) sk.nums.tyI) b.len) (by rw [List.length_map, List.length_range])) (by omega) (by omega) b.range)) (blkOk_by (by decide +kernel)) (fun _ _ => by rw [rngT_len, Int.toNat_natCast]; omega) (fun _ k t _ hit4 => by obtain ⟨_, rfl⟩ := rngT_get hit4; exact xg_name 5) fun _ k t _ hit4 => x_pick F1 hM.st b p1 (by omega) (fun _ => x_var 4) (x_var 0)) b.tuple) ?_) (xb_open 7 rfl fun th hth => ?_)
  · intro S v ⟨ys, ⟨⟨_, _, k1⟩, k2⟩, k3⟩
    rw [rngT_len, Int.toNat_natCast] at k1
    exact ⟨ys, ⟨k1, k2⟩, k3⟩
  obtain ⟨t1, t2⟩ := hth
  have tg : ∀ m ∈ th, GoodM nm m := fun m hm => p3 m (t2 m hm)
  have wid : ∀ l ∈ sh.2, l.2.length ≤ 3 := fun l hl => (ok.col _ (sk.tab l hl)).2
  refine xb_ownC 8 (xsc_L 8 (own := [("_law_name", 9), ("_law_marks", 10)]) (vs := [9, 10]) (T := tLn) (U := fun l : Line => tLn (putL th l)) (f := fun _ => true) (xs := sh.2) (G1 := fun l => gMs g q sh hs nm pool th .unk .unk (.ty (tNm l.1)) (.ty (tMs l.2)) .unk .unk .unk .unk .unk) rfl (xi_tup (x_ixT (n := 1) (t := tLns sh.2) (x_var 1) x_int rfl)) (blkOk_by (by decide +kernel)) (by omega) (fun D l _ => xg_tup (xgs_cons (xg_name 9) (xgs_cons (xg_name 10) xgs_nil))) (fun D l _ => xts_nil) fun D l hl _ => x_tup (ts := [tNm l.1, tMs (putBy th l.2)]) (xa_2 (x_var 9) (x_callI F4 ⟨(th, l.2), by rw [t1]; exact sk.under l hl, by have := wid l hl; show l.2.length ≤ 1000; omega⟩ (xa_2 (x_var 7) (x_var 10)) trivial))) fun P1 => ?_
  rw [List.filter_eq_self.mpr fun _ _ => rfl, show (sh.2.map fun l => tLn (putL th l)) = (sh.2.map (putL th)).map tLn by rw [List.map_map]; rfl]
  refine xb_forX (κ := Nat) (q := fun n => 0 ≤ (n : Int) ∧ (n : Int) < 3) (f := fun n => rngT 0 n) (fun n i (z : List Line) => z.length = sh.2.length + i ∧ ∀ l ∈ z, LnGd hs nm l)
    (fun n i z => gMs g q sh hs nm pool th .unk (.own P1 (.lst (z.map tLn))) .unk .unk .unk .unk .unk .unk .unk) (G1 := fun n i z => gMs g q sh hs nm pool th (.ty (tIn (0 + (i : Nat)))) (.own P1 (.lst (z.map tLn))) .unk .unk .unk .unk .unk .unk .unk) (vs := [5])
    (xix_rng (q := fun i => 0 ≤ i ∧ i < 3) (x_sub (x_take F1 hM.st (n := 3) (by decide) (x_var 0) x_int) tk_sub) (fun i h => ⟨by omega, by omega⟩) b.range) (fun _ => sh.2.map (putL th)) (fun n hn => ⟨by rw [List.length_map]; rfl, fun l hl => ?_⟩) (fun n hn => rfl) (fun n i z t hn hit iv => ?_) (fun n i z t B' hn hit iv _ => ?_) fun n z hn iv => ?_
  · obtain ⟨x, hx, rfl⟩ := List.mem_map.mp hl
    refine ⟨?_, fun m hm => ?_⟩
    · show (x.1, (x.2.map (putM th)).length) ∈ hs
      rw [List.length_map]
      exact sk.tab x hx
    · obtain ⟨y, hy, rfl⟩ := List.mem_map.mp hm
      exact putM_good tg (sk.gl x hx y hy)
  · obtain ⟨_, rfl⟩ := rngT_get hit
    exact xg_name 5
  · obtain ⟨hi, rfl⟩ := rngT_get hit
    have hn2 := hn.2
    obtain ⟨iv1, iv2⟩ := iv
    refine xb_asgX (q := fun h => h ∈ hs) (f := tHd) (vs := [9, 11]) (G1 := fun h => gMs g q sh hs nm pool th (.ty (tIn (0 + (i : Nat)))) (.own P1 (.lst (z.map tLn))) (.ty (tNm h.1)) .unk (.ty (tNt h.2)) .unk .unk .unk .unk) (x_pick F1 hM.st b n1 (by omega) (fun _ => x_var 2) (x_var 0)) (fun h hh => xg_tup (xgs_cons (xg_name 9) (xgs_cons (xg_name 11) xgs_nil))) fun h hh => ?_
    have hc := (ok.col h hh).2
    refine xb_appX (q := fun ms : List Mark => ms.length = h.2 ∧ ∀ m ∈ ms, m ∈ pool) (f := fun ms => tLn (h.1, ms)) 8 rfl (x_sub (x_tup (xa_2 (x_var 9) (x_tupLX (x_lcS (own := [("_law_c", 12)]) (vs := [12]) (P := fun m => m ∈ pool) (T := tMk) (G1 := fun _ k => gMs g q sh hs nm pool th (.ty (tIn (0 + (i : Nat)))) (.own P1 (.lst (z.map tLn))) (.ty (tNm h.1)) .unk (.ty (tNt h.2)) (.ty (tIn (0 + (k : Nat)))) .unk .unk .unk) rfl
      (xix_of (xi_rng (x_var 11) (by omega) (by omega) b.range)) (blkOk_by (by decide +kernel)) (fun _ _ => by rw [rngT_len, Int.toNat_natCast]; omega) (fun _ k t _ hit4 => by obtain ⟨_, rfl⟩ := rngT_get hit4; exact xg_name 12) fun _ k t _ hit4 => x_pick F1 hM.st b p1 (by omega) (fun _ => x_var 4) (x_var 0)) b.tuple)) (Nat.le_of_ble_eq_true rfl)) ?_) (by rw [List.length_map]; omega) fun ms hms => xb_nil fun σ H ct => ⟨z ++ [(h.1, ms)], ⟨by rw [List.length_append, iv1]; rfl, fun l hl => ?_⟩, ?_⟩
    · intro S v ⟨a, ws, e1, e2, e3⟩
      obtain ⟨x, y, rfl, k1, ys, ⟨⟨_, _, k2⟩, k3⟩, k4⟩ := e3.two
      rw [rngT_len, Int.toNat_natCast] at k2
      exact ⟨ys, ⟨k2, k3⟩, a, _, e1, e2, .cons k1 (.cons k4 .nil)⟩
    · rcases List.mem_append.mp hl with hl | hl
      · exact iv2 l hl
      · rw [List.mem_singleton.mp hl]
        exact ⟨by show (h.1, ms.length) ∈ hs; rw [hms.1]; exact hh, fun m hm => p3 m (hms.2 m hm)⟩
    · rw [List.map_append]
      exact ct.forget
  · obtain ⟨iv1, iv2⟩ := iv
    rw [rngT_len] at iv1
    have hn2 := hn.2
    refine xb_frz 8 rfl ?_
    refine xb_if (fun σ H => ∃ y : { y : List Line // y.length ≤ 10 ∧ ∀ l ∈ y, LnGd hs nm l }, Ct M S_0 S_0 H_0 (gMs g q sh hs nm pool th .unk (.ty (tLs (y.1.map tLn))) .unk .unk .unk .unk .unk .unk .unk) σ H) (c := fun _ => True) (xt_eqX (x_sub (x_take F1 hM.st (n := 4) (by decide) (x_var 0) x_int) tk_sub) (x_intX (p := anyI) trivial)) (fun _ => ?_) (fun _ => ?_) ?_
    · refine xb_set 8 (x_slL_from (k := 1) (ts := z.map tLn) (x_var 8) x_int) (xb_nil fun σ H ct => ⟨⟨z.drop 1, by rw [List.length_drop]; omega, fun l hl => iv2 l (List.mem_of_mem_drop hl)⟩, ?_⟩)
      rw [List.map_drop]
      exact ct
    · exact xb_nil fun σ H ct => ⟨⟨z, by omega, iv2⟩, ct⟩
    refine xb_ex fun ⟨y, y1, y2⟩ => ?_
    refine xb_set 8 (t := tLs ((y.take 5).map tLn)) (by rw [List.map_take]; exact x_slL_to (k := 5) (ts := y.map tLn) (x_var 8) x_int) ?_
    obtain ⟨ls, hls⟩ : ∃ ls, ls = y.take 5 := ⟨_, rfl⟩
    rw [← hls]
    have l1 : ls.length ≤ 5 := by rw [hls, List.length_take]; omega
    have l2 : ∀ l ∈ ls, LnGd hs nm l := fun l hl => y2 l (by rw [hls] at hl; exact List.mem_of_mem_take hl)
    have lok : LnsOk ls := ⟨by omega, fun l hl => Nat.le_trans (ok.col _ (l2 l hl).t).2 (by decide)⟩
    refine xb_set 13 (t := tEx (Srt (numsI ls)) fun ms => tLs (ms.map tIn)) (x_callI F3 ⟨(true, ls), lok⟩ (xa_1 (x_var 8)) trivial) (xb_open 13 rfl fun ms hms => ?_)
    have hin : ∀ k : Nat, (k : Int) ∈ ms ↔ k ∈ lawNums ls := fun k => by
      rw [hms.2]
      unfold numsI
      rw [List.mem_map]
      exact ⟨fun ⟨j, hj, e⟩ => by rw [show k = j by omega]; exact hj, fun z => ⟨k, z, rfl⟩⟩
    refine xb_newL 14 fun P2 => ?_
    refine xb_for (ts := (putBy th sh.1).map tMk) (fun i (_ : Unit) => True) (fun i _ => gMs g q sh hs nm pool th .unk (.ty (tLs (ls.map tLn))) .unk .unk .unk .unk (.ty (tLs (ms.map tIn))) (.own P2 (.lst ((((putBy th sh.1).take i).map (fixM ls)).map tMk))) .unk) (G1 := fun i _ => match (putBy th sh.1)[i]? with
      | some m => gMs g q sh hs nm pool th .unk (.ty (tLs (ls.map tLn))) .unk .unk .unk .unk (.ty (tLs (ms.map tIn))) (.own P2 (.lst ((((putBy th sh.1).take i).map (fixM ls)).map tMk))) (.ty (tMk m))
      | none => []) (vs := [15]) (xi_tup (x_callI F4 ⟨(th, sh.1), by rw [t1]; exact sk.underH, by have := sk.h3; show sh.1.length ≤ 1000; omega⟩ (xa_2 (x_var 7) (x_ixT (n := 0) (t := tMs sh.1) (x_var 1) x_int rfl)) trivial)) () trivial rfl (fun i _ t hit _ => ?_) (fun i _ t B' hit _ _ => ?_) fun _ _ => ?_
    · obtain ⟨m, hm, _, rfl⟩ := map_get hit
      rw [hm]
      exact xg_name 15
    · obtain ⟨m, hm, hmem, rfl⟩ := map_get hit
      rw [hm]
      have pl : (putBy th sh.1).length ≤ 3 := by show (sh.1.map _).length ≤ 3; rw [List.length_map]; exact sk.h3
      refine xb_if (Ct M B' S_0 H_0 (gMs g q sh hs nm pool th .unk (.ty (tLs (ls.map tLn))) .unk .unk .unk .unk (.ty (tLs (ms.map tIn))) (.own P2 (.lst ((((putBy th sh.1).take i).map (fixM ls)).map tMk))) (.ty (tMk (fixM ls m))))) (c := fun y => y = (isAny m && !decide ((numOf m : Int) ∈ ms))) (xw_t (xw_andB (xt_isAny (x_var 15) x_int x_str) fun ha => ?_)) (fun ha => ?_) (fun ha => ?_) ?_
      · cases m with
        | is c => cases ha
        | any k => exact xw_and1 (xt_niL encIn (x_ixT (n := 1) (t := tIn (k : Int)) (x_var 15) x_int rfl) (x_var 13))
      · cases m with
        | is c => cases ha
        | any k =>
          have hk : k ∉ lawNums ls := fun z => by
            have ha : true = (true && !decide ((k : Int) ∈ ms)) := ha
            rw [decide_eq_true ((hin k).mpr z)] at ha
            cases ha
          have e : fixM ls (.any k) = .is v1 := by show (if k ∈ lawNums ls then _ else _) = _; rw [if_neg hk]
          rw [e]
          exact xb_set 15 (x_tup (ts := [tSt "is", tVl v1]) (xa_2 x_str x_int)) (xb_nil fun _ _ h => h)
      · have e : fixM ls m = m := by
          cases m with
          | is c => rfl
          | any k =>
            have ha : false = (true && !decide ((k : Int) ∈ ms)) := ha
            by_cases z : (k : Int) ∈ ms
            · show (if k ∈ lawNums ls then _ else _) = _
              rw [if_pos ((hin k).mp z)]
            · rw [decide_eq_false z] at ha; cases ha
        rw [e]
        exact xb_nil fun _ _ h => h
      · refine xb_app 14 rfl (x_var 15) (by rw [List.length_map, List.length_map, List.length_take]; omega) (xb_nil fun σ H ct => ⟨(), trivial, ?_⟩)
        have e : (((putBy th sh.1).take (i + 1)).map (fixM ls)).map tMk = (((putBy th sh.1).take i).map (fixM ls)).map tMk ++ [tMk (fixM ls m)] := by
          rw [take_succ_get hm, List.map_append, List.map_append]
          rfl
        rw [e]
        exact ct.forget
    · rw [List.length_map, List.take_length]
      refine xb_frz 14 rfl ?_
      have hdl : ((putBy th sh.1).map (fixM ls)).length = sh.1.length := by rw [List.length_map]; show (sh.1.map _).length = _; rw [List.length_map]
      have raw : RawOk hs nm ((putBy th sh.1).map (fixM ls)) ls := ⟨l1, fun h hh => (ok.col h hh).2, fun l hl => (l2 l hl).t, by rw [hdl]; exact sk.h1, by rw [hdl]; exact sk.h3, fun k hk => ?_, fun m hm => ?_, fun l hl => (l2 l hl).m⟩
      · exact xb_rt (x_callI F2 ⟨((putBy th sh.1).map (fixM ls), ls), raw.pr⟩ (xa_2 (x_tupL (x_var 14) b.tuple) (x_var 8)) trivial) (show Sub _ (tShX hs nm) from fun S v ⟨ms, h1, h2⟩ => ⟨(prOf ms ((putBy th sh.1).map (fixM ls)) ls, ms.length), prOf_ok raw h1, h2⟩)
      · obtain ⟨m, hm, e⟩ := List.mem_map.mp hk
        cases m with
        | is c => cases e
        | any j =>
          have e : (if j ∈ lawNums ls then Mark.any j else .is v1) = .any k := e
          split at e
          · cases e; assumption
          · cases e
      · obtain ⟨x, hx, rfl⟩ := List.mem_map.mp hm
        obtain ⟨y, hy, rfl⟩ := List.mem_map.mp hx
        have gd := putM_good tg (sk.gh y hy)
        cases e : putM th y with
        | is c => rw [e] at gd; exact gd
        | any j =>
          show GoodM nm (if j ∈ lawNums ls then Mark.any j else .is v1)
          split
          · exact fun v z => nomatch z
          · exact fun v z => by cases z; exact hv1
end Z
end

section
/-! T39: _law_things. -/
namespace Z
open PySem PySem.Spec L2 PySem.W ZL
variable {g : Gc}
section
variable {ι : Type} {l : Lc} {M : Md} {G : List Slot} {pos p : Pos} {a b : Expr} {ts : List Ty} {q : ι → Prop} {f : ι → List Ty}
theorem boot_min' : bootBuiltins ("min" : Str) = some (.builtin "min") := by decide +kernel
theorem x_min2 {i j : Int} (ha : XE g l M G a (tIn i)) (hb : XE g l M G b (tIn j)) (hm : g.mg "min" = none) (hg : l.sc.names.lookup ("min" : Str) = some .globalImplicit := by rfl) (hs : ∀ env, starEach [a, b] env = (false, eval a env) :: starEach [b] env := by intro _; rfl) (hs2 : ∀ env, starEach [b] env = (false, eval b env) :: starEach [] env := by intro _; rfl) (hpl : ∀ env, (backTo pos (starEach [b] env)).any (·.1) = false := by intro _; rfl) :
    XE g l M G (.Call (.Name "min" p) [a, b] [] pos) (tIn (if j < i then j else i)) :=
  x_callB (fun X A => call_min2 A.calm) (fun S H vs Q e k qk => by
    obtain ⟨v, w, rfl, h1, h2⟩ := k.two
    cases h1
    cases h2
    exact ⟨i, j, rfl, qk _ S H (Gr.refl e) rfl⟩) hm boot_min' (xa_2 ha hb hs hs2) hg (by decide) (by decide) hs hpl
theorem x_catTE (ha : XE g l M G a (tTu ts)) (hb : XE g l M G b (tEx q fun j => tTu (f j))) (hl : ∀ j, q j → ts.length + (f j).length ≤ 100000) : XE g l M G (.BinOp a .Add b pos) (tEx q fun j => tTu (ts ++ f j)) := x_op (t := tTu ts) (u := tEx q fun j => tTu (f j)) (f := rCatA g.K) (fun X A => by rw [← A.K]; exact op_catA) (fun S H x y Q e ⟨c, vs, h1, h2, h3⟩ ⟨j, hj, d, ws, k1, k2, k3⟩ qk => by
  subst h1 k1
  refine ⟨c, d, vs, ws, rfl, rfl, SqT.of (e _ _ h2), SqT.of (e _ _ k2), ?_, fun z => ?_, fun _ z => ?_, fun _ _ w hw => ?_⟩
  · rw [← h3.len, ← k3.len]; exact Nat.le_trans (hl j hj) (by decide)
  · subst z
    exact qk _ S H (Gr.refl e) ⟨j, hj, d, ws, rfl, k2, h3.app k3⟩
  · subst z
    exact qk _ S H (Gr.refl e) ⟨j, hj, c, vs, rfl, h2, by have := h3.app k3; rw [List.append_nil] at this; exact this⟩
  · have gr := Gr.new (o := .tup (vs ++ ws)) e hw
    exact qk _ _ _ gr ⟨j, hj, w, _, rfl, upd_same, (h3.app k3).mono gr.ss⟩) ha hb
theorem xi_rngN {tg : Expr} {k : Nat} (h : XE g l M G a (tIn (k : Int))) (h1 : (k : Int) < 2 ^ 62) (hm : g.mg "range" = none) (hg : l.sc.names.lookup ("range" : Str) = some .globalImplicit := by rfl) (hs : ∀ env, starEach [a] env = [(false, eval a env)] := by intro _; rfl) : XI g l M G tg (.Call (.Name "range" p) [a] [] pos) (rngT 0 k) := by
  have h := xi_rng (tg := tg) (p := p) (pos := pos) h (by omega) h1 hm hg hs
  rw [Int.toNat_natCast] at h
  exact h
end
instance (priority := 5000) decMk (v : Mark) (u : List Mark) : Decidable (v ∈ u) := @List.instDecidableMemOfLawfulBEq Mark instBEqOfDecidableEq _ v u
def newMs (f ms : List Mark) : List Mark := ms.filter fun m => !decide (m ∈ f)
def ThsOk (ths : List (List Mark)) : Prop := ths.length ≤ 400 ∧ ∀ th ∈ ths, th.length ≤ 100
structure Thq where
  s : Stq
  hs : List (Nm × Nat)
  nm : List Vl
  one : Sheet
  n1 : Nat
  oth : Sheet
  n2 : Nat
  ok : HsOk hs nm
  k1 : ShOk hs nm one n1
  k2 : ShOk hs nm oth n2
abbrev FnThings (g : Gc) (P : Addr) := Fn g "_law_things" 2 (Spc (fun (q : Thq) M => IsM q.s P M) (fun q => [q.s.ty g, tSh q.one, tSh q.oth]) (fun q => tEx ThsOk fun ths => tLs (ths.map tMs)))
theorem nums_le {ls : List Line} {n : Nat} (h : NumsN ls n) : n ≤ 60 := by
  cases n with
  | zero => omega
  | succ m =>
    have := nodup_len (l := (List.range (m + 1)).map fun k => ((k : Nat) : Int)) (m := numsOf ls) (List.pairwise_map.mpr ((List.nodup_range (n := m + 1)).imp fun h e => h (by omega))) fun x hx => by
      obtain ⟨j, hj, rfl⟩ := List.mem_map.mp hx
      have := List.mem_range.mp hj
      exact (h.mem _).mpr ⟨by omega, by omega⟩
    rw [List.length_map, List.length_range] at this
    have l2 : (numsOf ls).length ≤ (marksOf ls).length := by
      unfold numsOf
      rw [List.length_map]
      exact List.length_filter_le ..
    have := h.few
    omega
theorem ok_things {P : Addr} (b : Gb g) (F : Df g "_law_things" (top 77)) (F1 : FnTake g) (F3 : FnLnums g) : FnThings g P := by
  refine fn_mk (N := ["_law_state", "_law_one", "_law_other", "_law_marks", "_law_name", "_law_told", "_law_mark", "_law_count", "_law_found", "_law_k", "_law_longer", "_law_some", "_law_rest"]) (ps := ["_law_state", "_law_one", "_law_other"]) F ⟨rfl, rfl, rfl, by decide +kernel, rfl, by decide +kernel, by decide +kernel⟩ (fun _ => rfl) (by decide) (fun _ _ _ _ _ _ us hl => match us, hl with | [_, _, _], _ => rfl) (fun _ _ _ h => h.dom) fun q M S_0 H_0 hM => ?_
  obtain ⟨q, hs, nm, one, n, oth, n2, ok, k1, k2⟩ := q
  have hM : IsM q P M := hM
  have n60 := nums_le k1.nums
  have l5 := k1.ln
  have o5 := k2.ln
  refine xb_own 3 (xf_lst (ts := [Mark.is v0, Mark.any 7].map tMk) (xa_2 (x_tup (ts := [tSt "is", tVl v0]) (xa_2 x_str x_int)) (x_tup (ts := [tSt "any", tNt 7]) (xa_2 x_str x_int)))) fun _ P1 _ => ?_
  refine xb_for (ts := oth.2.map tLn) (fun i (z : List Mark) => 1 ≤ z.length ∧ z.length ≤ 2 + 3 * i) (fun i z => [.ty (q.ty g), .ty (tSh one), .ty (tSh oth), .own P1 (.lst (z.map tMk)), .unk, .unk, .unk, .unk, .unk, .unk, .unk, .unk, .unk]) (G1 := fun i z => match oth.2[i]? with
    | some l => [.ty (q.ty g), .ty (tSh one), .ty (tSh oth), .own P1 (.lst (z.map tMk)), .ty (tNm l.1), .ty (tMs l.2), .unk, .unk, .unk, .unk, .unk, .unk, .unk]
    | none => []) (vs := [4, 5]) (xi_tup (x_ixT (n := 1) (t := tLns oth.2) (x_var 2) x_int rfl)) [Mark.is v0, Mark.any 7] ⟨by decide, by decide⟩ rfl (fun i z t hit _ => ?_) (fun i z t B' hit iv _ => ?_) fun ms iv => ?_
  · obtain ⟨l, hl, _, rfl⟩ := map_get hit
    rw [hl]
    exact xg_tup (xgs_cons (xg_name 4) (xgs_cons (xg_name 5) xgs_nil))
  · obtain ⟨l, hl, hm, rfl⟩ := map_get hit
    rw [hl]
    have w : l.2.length ≤ 3 := (ok.col _ (k2.tab l hm)).2
    have hi := (List.getElem?_eq_some_iff.mp hl).1
    obtain ⟨iv1, iv2⟩ := iv
    have nl : (newMs z l.2).length ≤ 3 := Nat.le_trans (List.length_filter_le _ _) w
    refine xb_one (xs_ext (q := fun _ : Unit => True) (f := fun _ => (newMs z l.2).map tMk) 3 rfl (x_sub (x_lcD (xs := l.2) (own := [("_law_mark", 6)]) (vs := [6]) (T := tMk) (U := tMk) (f := fun m => !decide (m ∈ z)) (G1 := fun m => [.ty (q.ty g), .ty (tSh one), .ty (tSh oth), .own P1 (.lst (z.map tMk)), .ty (tNm l.1), .ty (tMs l.2), .ty (tMk m), .unk, .unk, .unk, .unk, .unk, .unk]) (xi_tup (x_var 5)) rfl (blkOk_by (by decide +kernel)) (by omega) (fun m _ => xg_name 6) (fun m _ => xts_one (xt_frz 3 rfl (xt_niL encMk (x_var 6) (x_var 3)))) fun m _ _ => x_var 6) fun S v h => ⟨(), trivial, h⟩) (fun _ _ => by rw [List.length_map, List.length_map]; omega) fun _ σ H _ ct => ⟨z ++ newMs z l.2, ⟨by rw [List.length_append]; omega, by rw [List.length_append]; omega⟩, ?_⟩)
    rw [List.map_append]
    exact ct.forget
  · rw [List.length_map] at iv
    obtain ⟨m1, m2⟩ := iv
    refine xb_frz 3 rfl ?_
    refine xb_set 7 (t := tNt n) (x_ty (x_lenL (x_sub (x_callI F3 ⟨(false, one.2), ⟨by show one.2.length ≤ 10; omega, fun l hl => Nat.le_trans (ok.col _ (k1.tab l hl)).2 (by decide)⟩⟩ (xa_1 (x_ixT (n := 1) (t := tLns one.2) (x_var 1) x_int rfl)) trivial) k1.nums.tyI) b.len) (by rw [List.length_map, List.length_range]; rfl)) ?_
    refine xb_set 8 (t := tLs (([[]] : List (List Mark)).map tMs)) (x_lst (xa_1 (x_tup xa_nil))) ?_
    refine xb_for (ts := rngT 0 (min 2 n)) (fun i (z : List (List Mark)) => z.length ≤ 17 ^ i ∧ ∀ t ∈ z, t.length = i) (fun i z => [.ty (q.ty g), .ty (tSh one), .ty (tSh oth), .ty (tLs (ms.map tMk)), .unk, .unk, .unk, .ty (tNt n), .ty (tLs (z.map tMs)), .unk, .unk, .unk, .unk]) (G1 := fun i z => [.ty (q.ty g), .ty (tSh one), .ty (tSh oth), .ty (tLs (ms.map tMk)), .unk, .unk, .unk, .ty (tNt n), .ty (tLs (z.map tMs)), .ty (tIn (0 + (i : Nat))), .unk, .unk, .unk]) (vs := [9])
      (xi_rngN (x_isI (x_min2 (i := 2) (j := (n : Int)) x_int (x_var 7) b.min) (by split <;> omega)) (by omega) b.range) [[]] ⟨by decide, fun t ht => by rw [List.mem_singleton.mp ht]; rfl⟩ rfl (fun i z t hit _ => ?_) (fun i z t B' hit iv _ => ?_) fun z iv => ?_
    · obtain ⟨_, rfl⟩ := rngT_get hit
      exact xg_name 9
    · obtain ⟨hi, rfl⟩ := rngT_get hit
      obtain ⟨iv1, iv2⟩ := iv
      have h17 : 17 ^ i ≤ 17 ^ 1 := Nat.pow_le_pow_right (by decide) (by omega)
      have h17' : 17 ^ i ≤ 17 := h17
      refine xb_pre (pre := Ct M B' S_0 H_0 [.ty (q.ty g), .ty (tSh one), .ty (tSh oth), .ty (tLs (ms.map tMk)), .unk, .unk, .unk, .ty (tNt n), .ty (tLs (z.map tMs)), .unk, .unk, .unk, .unk]) ?_ fun σ H ct => ct.forget
      refine xb_newL 10 fun P2 => ?_
      refine xb_for (ts := z.map tMs) (fun j (y : List (List Mark)) => y.length = j * ms.length ∧ ∀ t ∈ y, t.length = i + 1) (fun j y => [.ty (q.ty g), .ty (tSh one), .ty (tSh oth), .ty (tLs (ms.map tMk)), .unk, .unk, .unk, .ty (tNt n), .ty (tLs (z.map tMs)), .unk, .own P2 (.lst (y.map tMs)), .unk, .unk]) (G1 := fun j y => match z[j]? with
        | some t => [.ty (q.ty g), .ty (tSh one), .ty (tSh oth), .ty (tLs (ms.map tMk)), .unk, .unk, .unk, .ty (tNt n), .ty (tLs (z.map tMs)), .unk, .own P2 (.lst (y.map tMs)), .ty (tMs t), .unk]
        | none => []) (vs := [11]) (xi_list (x_var 8)) [] ⟨by rw [Nat.zero_mul]; rfl, fun t ht => by cases ht⟩ rfl (fun j y t hit _ => ?_) (fun j y t B2 hit iw _ => ?_) fun y iw => ?_
      · obtain ⟨t, ht, _, rfl⟩ := map_get hit
        rw [ht]
        exact xg_name 11
      · obtain ⟨t, ht, htm, rfl⟩ := map_get hit
        rw [ht]
        obtain ⟨iw1, iw2⟩ := iw
        have tl := iv2 t htm
        have hj := (List.getElem?_eq_some_iff.mp ht).1
        have hb := Nat.mul_le_mul (show j ≤ 17 by omega) (show ms.length ≤ 17 by omega)
        refine xb_one (xs_ext (q := fun _ : Unit => True) (f := fun _ => (ms.map fun m => t ++ [m]).map tMs) 10 rfl (x_sub (x_lcA (xs := ms) (own := [("_law_mark", 6)]) (vs := [6]) (T := tMk) (U := fun m => tMs (t ++ [m])) (G1 := fun m => [.ty (q.ty g), .ty (tSh one), .ty (tSh oth), .ty (tLs (ms.map tMk)), .unk, .unk, .ty (tMk m), .ty (tNt n), .ty (tLs (z.map tMs)), .unk, .own P2 (.lst (y.map tMs)), .ty (tMs t), .unk]) (xi_list (x_var 3)) rfl (blkOk_by (by decide +kernel)) (by omega) (fun m _ => xg_name 6) fun m _ => x_ty (x_catT (ts := t.map tMk) (us := [tMk m]) (x_var 11) (x_tup (ts := [tMk m]) (xa_1 (x_var 6))) (by rw [List.length_map]; show t.length + 1 ≤ _; omega)) (by show _ = tTu _; rw [List.map_append]; rfl)) fun S v h => ⟨(), trivial, by rw [List.map_map]; exact h⟩) (fun _ _ => by rw [List.length_map, List.length_map, List.length_map]; omega) fun _ σ H _ ct => ⟨y ++ (ms.map fun m => t ++ [m]), ⟨by rw [List.length_append, List.length_map, iw1, Nat.succ_mul], fun x hx => ?_⟩, ?_⟩)
        · rcases List.mem_append.mp hx with hx | hx
          · exact iw2 x hx
          · obtain ⟨m, _, rfl⟩ := List.mem_map.mp hx
            rw [List.length_append, tl]; rfl
        · rw [List.map_append]
          exact ct.forget
      · rw [List.length_map] at iw
        obtain ⟨iw1, iw2⟩ := iw
        refine xb_frz 10 rfl (xb_set 8 (x_var 10) (xb_nil fun σ H ct => ⟨y, ⟨?_, iw2⟩, ct.forget⟩))
        rw [iw1, Nat.pow_succ]
        exact Nat.mul_le_mul iv1 (by omega)
    · rw [rngT_len] at iv
      obtain ⟨iv1, iv2⟩ := iv
      have h17 : 17 ^ (min 2 n) ≤ 17 ^ 2 := Nat.pow_le_pow_right (by decide) (by omega)
      have h17' : 17 ^ (min 2 n) ≤ 289 := h17
      refine xb_newL 12 fun P2 => ?_
      refine xb_for (ts := z.map tMs) (fun j (y : List (List Mark)) => y.length = j ∧ ∀ t ∈ y, t.length ≤ 100) (fun j y => [.ty (q.ty g), .ty (tSh one), .ty (tSh oth), .ty (tLs (ms.map tMk)), .unk, .unk, .unk, .ty (tNt n), .ty (tLs (z.map tMs)), .unk, .unk, .unk, .own P2 (.lst (y.map tMs))]) (G1 := fun j y => match z[j]? with
        | some t => [.ty (q.ty g), .ty (tSh one), .ty (tSh oth), .ty (tLs (ms.map tMk)), .unk, .unk, .unk, .ty (tNt n), .ty (tLs (z.map tMs)), .unk, .unk, .ty (tMs t), .own P2 (.lst (y.map tMs))]
        | none => []) (vs := [11]) (xi_list (x_var 8)) [] ⟨rfl, fun t ht => by cases ht⟩ rfl (fun j y t hit _ => ?_) (fun j y t B2 hit iw _ => ?_) fun y iw => ?_
      · obtain ⟨t, ht, _, rfl⟩ := map_get hit
        rw [ht]
        exact xg_name 11
      · obtain ⟨t, ht, htm, rfl⟩ := map_get hit
        rw [ht]
        obtain ⟨iw1, iw2⟩ := iw
        have tl := iv2 t htm
        have hj := (List.getElem?_eq_some_iff.mp ht).1
        have e : (n : Int) - ((t.map tMk).length : Int) = ((n - t.length : Nat) : Int) := by rw [List.length_map]; omega
        refine xb_appX (q := fun x : List Mark => x.length ≤ 100) (f := tMs) 12 rfl (x_sub (x_catTE (ts := t.map tMk) (q := fun ys : List Mark => ys.length = n - t.length) (f := fun ys => ys.map tMk) (x_var 11) (x_sub (x_tupLX (x_lcS (own := [("_law_k", 9)]) (vs := [9]) (P := fun m => m ∈ ms) (T := tMk) (G1 := fun _ k => [.ty (q.ty g), .ty (tSh one), .ty (tSh oth), .ty (tLs (ms.map tMk)), .unk, .unk, .unk, .ty (tNt n), .ty (tLs (z.map tMs)), .ty (tIn (0 + (k : Nat))), .unk, .ty (tMs t), .own P2 (.lst (y.map tMs))]) rfl
          (xix_of (xi_rng (x_isI (x_subt (x_var 7) (x_lenT (ts := t.map tMk) (x_var 11) b.len)) e) (by omega) (by omega) b.range)) (blkOk_by (by decide +kernel)) (fun _ _ => by rw [rngT_len, Int.toNat_natCast]; omega) (fun _ k t _ hit4 => by obtain ⟨_, rfl⟩ := rngT_get hit4; exact xg_name 9) fun _ k t _ hit4 => x_pick F1 hM.st b m1 (by omega) (fun _ => x_var 3) (x_var 0)) b.tuple) ?_) fun ys hys => ?_) ?_) (by rw [List.length_map]; omega) fun x hx => xb_nil fun σ H ct => ⟨y ++ [x], ⟨by rw [List.length_append, iw1]; rfl, fun w hw => ?_⟩, ?_⟩
        · intro S v ⟨ys, ⟨⟨_, _, k1⟩, k2⟩, k3⟩
          rw [rngT_len, Int.toNat_natCast] at k1
          exact ⟨ys, k1, k3⟩
        · have hys : ys.length = n - t.length := hys
          rw [List.length_map, List.length_map]; omega
        · intro S v ⟨ys, h1, h2⟩
          have h1 : ys.length = n - t.length := h1
          have h2 : (tTu (t.map tMk ++ ys.map tMk)).is S v := h2
          rw [← List.map_append] at h2
          exact ⟨t ++ ys, by show (t ++ ys).length ≤ 100; rw [List.length_append]; omega, h2⟩
        · rcases List.mem_append.mp hw with hw | hw
          · exact iw2 w hw
          · rw [List.mem_singleton.mp hw]; exact hx
        · rw [List.map_append]
          exact ct.forget
      · rw [List.length_map] at iw
        obtain ⟨iw1, iw2⟩ := iw
        exact xb_frz 12 rfl (xb_rt (x_var 12) (show Sub (tLs (y.map tMs)) (tEx ThsOk fun ths => tLs (ths.map tMs)) from fun S v h => ⟨y, ⟨by omega, iw2⟩, h⟩))
end Z
end

section
/-! T40: the plain law: readings, likenesses. -/
namespace Z
open PySem PySem.Spec L2 PySem.W ZL
section
variable {κ β : Type} [DecidableEq κ]
theorem valA_app (l : List (κ × β)) (k : κ) (v : β) (j : κ) : valA (l ++ [(k, v)]) j = match valA l j with | some w => some w | none => if k = j then some v else none := by
  induction l with
  | nil => show valA [(k, v)] j = _; rw [valA_cons]; rfl
  | cons q l ih =>
    obtain ⟨a, w⟩ := q
    show valA ((a, w) :: (l ++ [(k, v)])) j = _
    rw [valA_cons, valA_cons, ih]
    by_cases e : a = j
    · rw [if_pos e, if_pos e]
    · rw [if_neg e, if_neg e]
theorem valA_key {l : List (κ × β)} {k : κ} {w : β} (h : valA l k = some w) : k ∈ l.map (·.1) := by
  induction l with
  | nil => cases h
  | cons q l ih =>
    obtain ⟨a, v⟩ := q
    rw [valA_cons] at h
    by_cases e : a = k
    · rw [← e]; exact List.mem_cons_self ..
    · rw [if_neg e] at h; exact List.mem_cons_of_mem _ (ih h)
theorem valA_put (l : List (κ × β)) (k : κ) (v : β) (j : κ) : valA (putA l k v) j = if k = j then some v else valA l j := by
  unfold putA
  by_cases h : (l.any fun q => decide (q.1 = k)) = true
  · rw [if_pos h]
    induction l with
    | nil => cases h
    | cons q l ih =>
      obtain ⟨a, w⟩ := q
      rw [List.map_cons]
      by_cases e : a = k
      · rw [if_pos e, valA_cons, e]
        by_cases e2 : k = j
        · rw [if_pos e2, if_pos e2]
        · rw [if_neg e2, if_neg e2, valA_cons, if_neg e2]
          clear ih h
          induction l with
          | nil => rfl
          | cons q l ih =>
            obtain ⟨a', w'⟩ := q
            rw [List.map_cons, valA_cons]
            by_cases e3 : a' = k
            · rw [if_pos e3, valA_cons]
              rw [if_neg (show ¬ a' = j from fun z => e2 (e3.symm.trans z)), if_neg (show ¬ a' = j from fun z => e2 (e3.symm.trans z))]
              exact ih
            · rw [if_neg e3, valA_cons, ih]
      · rw [if_neg e, valA_cons, valA_cons]
        have h2 : (l.any fun q => decide (q.1 = k)) = true := by
          rw [List.any_cons] at h
          simpa [e] using h
        rw [ih h2]
        by_cases e2 : a = j
        · rw [if_pos e2, if_pos e2, if_neg fun z => e (e2.trans z.symm)]
        · rw [if_neg e2, if_neg e2]
  · rw [if_neg h, valA_app]
    by_cases e : k = j
    · subst e
      rw [if_pos rfl, if_pos rfl]
      cases q : valA l k with
      | none => rfl
      | some w =>
        exfalso
        apply h
        obtain ⟨p, hp, e⟩ := List.mem_map.mp (valA_key q)
        exact List.any_eq_true.mpr ⟨p, hp, decide_eq_true e⟩
    · rw [if_neg e, if_neg e]
      cases valA l j <;> rfl
theorem valA_setd (l : List (κ × β)) (k : κ) (v : β) (j : κ) : valA (setdA l k v) j = match valA l j with | some w => some w | none => if k = j then some v else none := by
  unfold setdA
  cases q : valA l k with
  | some w =>
    by_cases e : k = j
    · subst e; rw [q]
    · rw [if_neg e]; cases valA l j <;> rfl
  | none =>
    show valA (putA l k v) j = _
    rw [valA_put]
    by_cases e : k = j
    · subst e; rw [q, if_pos rfl]; try rfl
    · rw [if_neg e, if_neg e]; cases valA l j <;> rfl
end
/-! ### going on -/
section
variable {β : Type} [DecidableEq β] (f : Vl → β)
def gStep (z : List (Nat × β)) : Mark → β → List (Nat × β) × Bool
  | .is c, v => (z, decide (f c = v))
  | .any k, v => (setdA z k v, decide ((valA z k).getD v = v))
def goG : List (Nat × β) → List Mark → List β → Option (List (Nat × β))
  | z, m :: ms, v :: vs => if (gStep f z m v).2 = true then goG (gStep f z m v).1 ms vs else none
  | z, [], _ => some z
  | z, _ :: _, [] => some z
def evG (A : Nat → β) : Mark → β
  | .is c => f c
  | .any k => A k
def valG (z : List (Nat × β)) : Mark → Option β
  | .is c => some (f c)
  | .any k => valA z k
def Ag (z : List (Nat × β)) (A : Nat → β) : Prop := ∀ k v, valA z k = some v → A k = v
variable {f}
theorem goG_yes {A : Nat → β} : ∀ {ms : List Mark} {z : List (Nat × β)}, Ag z A → ∃ z', goG f z ms (ms.map (evG f A)) = some z' ∧ Ag z' A ∧ ∀ k, (valA z k).isSome = true ∨ Mark.any k ∈ ms → (valA z' k).isSome = true
  | [], z, h => ⟨z, rfl, h, fun k hk => hk.elim id fun z => by cases z⟩
  | m :: ms, z, h => by
    have hs : (gStep f z m (evG f A m)).2 = true ∧ Ag (gStep f z m (evG f A m)).1 A ∧ ∀ k, (valA z k).isSome = true ∨ m = .any k → (valA (gStep f z m (evG f A m)).1 k).isSome = true := by
      cases m with
      | is c => exact ⟨decide_eq_true rfl, h, fun k hk => hk.elim id fun z => nomatch z⟩
      | any j =>
        refine ⟨decide_eq_true ?_, fun k v hv => ?_, fun k hk => ?_⟩
        · show (valA z j).getD (A j) = A j
          cases q : valA z j with
          | none => rfl
          | some w => exact (h j w q).symm
        · have hv : valA (setdA z j (A j)) k = some v := hv
          rw [valA_setd] at hv
          cases q : valA z k with
          | some w => rw [q] at hv; cases hv; exact h k _ q
          | none =>
            rw [q] at hv
            have hv : (if j = k then some (A j) else none) = some v := hv
            split at hv
            · rename_i e; cases hv; rw [e]
            · cases hv
        · show (valA (setdA z j (A j)) k).isSome = true
          rw [valA_setd]
          cases q : valA z k with
          | some w => rfl
          | none =>
            rcases hk with hk | hk
            · rw [q] at hk; cases hk
            · cases hk
              show (if j = j then some (A j) else none).isSome = true
              rw [if_pos rfl]
              exact rfl
    obtain ⟨h1, h2, h3⟩ := hs
    obtain ⟨z', e, k1, k2⟩ := goG_yes (ms := ms) h2
    refine ⟨z', ?_, k1, fun k hk => k2 k ?_⟩
    · show (if (gStep f z m (evG f A m)).2 = true then goG f (gStep f z m (evG f A m)).1 ms (ms.map (evG f A)) else none) = some z'
      rw [if_pos h1]; exact e
    · rcases hk with hk | hk
      · exact .inl (h3 k (.inl hk))
      · rcases List.mem_cons.mp hk with hk | hk
        · exact .inl (h3 k (.inr hk.symm))
        · exact .inr hk
theorem goG_no : ∀ {ms : List Mark} {vs : List β} {z z' : List (Nat × β)}, ms.length = vs.length → goG f z ms vs = some z' → (∀ k v, valA z k = some v → valA z' k = some v) ∧ ms.map (valG f z') = vs.map some
  | [], [], z, z', _, e => by cases e; exact ⟨fun _ _ h => h, rfl⟩
  | [], _ :: _, _, _, h, _ => by cases h
  | _ :: _, [], _, _, h, _ => by cases h
  | m :: ms, v :: vs, z, z', hl, e => by
    have e : (if (gStep f z m v).2 = true then goG f (gStep f z m v).1 ms vs else none) = some z' := e
    split at e
    · rename_i hs
      obtain ⟨k1, k2⟩ := goG_no (by simpa using hl) e
      have step : (∀ k w, valA z k = some w → valA (gStep f z m v).1 k = some w) ∧ valG f z' m = some v := by
        cases m with
        | is c =>
          have hs := of_decide_eq_true hs
          exact ⟨fun _ _ h => h, by rw [← hs]; rfl⟩
        | any j =>
          have hs : (valA z j).getD v = v := of_decide_eq_true hs
          refine ⟨fun k w hw => ?_, k1 j v ?_⟩
          · show valA (setdA z j v) k = some w
            rw [valA_setd, hw]
          · show valA (setdA z j v) j = some v
            rw [valA_setd]
            cases q : valA z j with
            | some w => rw [q] at hs; show some w = some v; rw [show w = v from hs]
            | none => show (if j = j then some v else none) = some v; rw [if_pos rfl]
      exact ⟨fun k w hw => k1 k w (step.1 k w hw), by rw [List.map_cons, List.map_cons, k2, step.2]⟩
    · cases e
end
theorem readOn_go : ∀ (ms : List Mark) (vs : List Vl) (z : Rd), readOn z ms vs = goG id z ms vs
  | [], [], z => rfl
  | [], _ :: _, z => rfl
  | _ :: _, [], z => rfl
  | m :: ms, v :: vs, z => by
    have e : stepR z m v = gStep id z m v := by cases m <;> rfl
    show (if (stepR z m v).2 = true then readOn (stepR z m v).1 ms vs else none) = if (gStep id z m v).2 = true then goG id (gStep id z m v).1 ms vs else none
    rw [e, readOn_go ms vs]
theorem ledGo_go : ∀ (ms os : List Mark) (z : Pl), ledGo z ms os = goG Mark.is z ms os
  | [], [], z => rfl
  | [], _ :: _, z => rfl
  | _ :: _, [], z => rfl
  | m :: ms, v :: vs, z => by
    have e : stepP z m v = gStep Mark.is z m v := by cases m <;> rfl
    show (if (stepP z m v).2 = true then ledGo (stepP z m v).1 ms vs else none) = if (gStep Mark.is z m v).2 = true then goG Mark.is (gStep Mark.is z m v).1 ms vs else none
    rw [e, ledGo_go ms vs]
/-! ### rows read -/
abbrev evR (A : Nat → Vl) : Mark → Vl := evG id A
def Sat (b : Book) (ls : List Line) (A : Nat → Vl) : Prop := ∀ l ∈ ls, l.2.map (evR A) ∈ rowsOf b l.1
def Wide (b : Book) (ls : List Line) : Prop := ∀ l ∈ ls, ∀ r ∈ rowsOf b l.1, r.length = l.2.length
theorem reads_yes {b : Book} {A : Nat → Vl} {ls : List Line} (h : Sat b ls A) : ∃ z ∈ readsAll b ls, Ag z A ∧ ∀ l ∈ ls, ∀ k, Mark.any k ∈ l.2 → (valA z k).isSome = true := by
  induction ls using snocInd with
  | h0 => exact ⟨[], by simp [readsAll], (fun k v e => by cases e), (fun l hl => by cases hl)⟩
  | hs ls l ih =>
    obtain ⟨z, hz, ag, cov⟩ := ih fun x hx => h x (List.mem_append_left _ hx)
    obtain ⟨z', e, ag', cov'⟩ := goG_yes (f := id) (ms := l.2) ag
    refine ⟨z', ?_, ag', fun x hx k hk => ?_⟩
    · rw [readsAll_snoc]
      exact List.mem_flatMap.mpr ⟨z, hz, List.mem_filterMap.mpr ⟨l.2.map (evR A), h l (by simp), by rw [readOn_go]; exact e⟩⟩
    · rcases List.mem_append.mp hx with hx | hx
      · exact cov' k (.inl (cov x hx k hk))
      · rw [List.mem_singleton.mp hx] at hk
        exact cov' k (.inr hk)
theorem reads_no {b : Book} {ls : List Line} (w : Wide b ls) {z : Rd} (hz : z ∈ readsAll b ls) : ∀ l ∈ ls, ∃ r ∈ rowsOf b l.1, l.2.map (valG id z) = r.map some := by
  induction ls using snocInd generalizing z with
  | h0 => intro l hl; cases hl
  | hs ls l ih =>
    rw [readsAll_snoc] at hz
    obtain ⟨y, hy, hz⟩ := List.mem_flatMap.mp hz
    obtain ⟨r, hr, e⟩ := List.mem_filterMap.mp hz
    rw [readOn_go] at e
    obtain ⟨k1, k2⟩ := goG_no (w l (by simp) r hr).symm e
    intro x hx
    rcases List.mem_append.mp hx with hx | hx
    · obtain ⟨r', hr', e'⟩ := ih (fun x hx => w x (List.mem_append_left _ hx)) hy x hx
      refine ⟨r', hr', ?_⟩
      rw [← e']
      apply List.map_congr_left
      intro m hm
      cases m with
      | is c => rfl
      | any k =>
        have hs : (valA y k).isSome = true := by
          have := List.mem_map_of_mem (f := valG id y) hm
          rw [e'] at this
          obtain ⟨v, _, ev⟩ := List.mem_map.mp this
          show (valG id y (.any k)).isSome = true
          rw [← ev]; rfl
        cases q : valA y k with
        | none => rw [q] at hs; cases hs
        | some v => show valA z k = valA y k; rw [q]; exact k1 k v q
    · rw [List.mem_singleton.mp hx]
      exact ⟨r, hr, k2⟩
theorem val_M (z : Rd) (m : Mark) : valM z m = valG id z m := by cases m <;> rfl
theorem rows_of {b : Book} {s : Sheet} (w : Wide b s.2) {row : Row} (h : row ∈ rowsRead s b) : ∃ A, Sat b s.2 A ∧ row = s.1.map (evR A) := by
  obtain ⟨z, hz, rfl⟩ := List.mem_map.mp h
  refine ⟨fun k => (valA z k).getD v0, fun l hl => ?_, List.map_congr_left fun m _ => by cases m <;> rfl⟩
  obtain ⟨r, hr, e⟩ := reads_no w hz l hl
  have : l.2.map (evR fun k => (valA z k).getD v0) = r := by
    have h2 : (l.2.map (valG id z)).map (fun o => o.getD v0) = (r.map some).map fun o => o.getD v0 := by rw [e]
    rw [List.map_map, List.map_map] at h2
    rw [show ((fun o : Option Vl => o.getD v0) ∘ some) = id from rfl, List.map_id] at h2
    rw [← h2]
    exact List.map_congr_left fun m _ => by cases m <;> rfl
  rw [this]
  exact hr
theorem rows_to {b : Book} {s : Sheet} {A : Nat → Vl} (h : Sat b s.2 A) (cov : ∀ k, Mark.any k ∈ s.1 → ∃ l ∈ s.2, Mark.any k ∈ l.2) : s.1.map (evR A) ∈ rowsRead s b := by
  obtain ⟨z, hz, ag, cv⟩ := reads_yes h
  refine List.mem_map.mpr ⟨z, hz, List.map_congr_left fun m hm => ?_⟩
  cases m with
  | is c => rfl
  | any k =>
    obtain ⟨l, hl, hk⟩ := cov k hm
    have hs := cv l hl k hk
    show (valA z k).getD v0 = A k
    cases q : valA z k with
    | none => rw [q] at hs; cases hs
    | some v => exact (ag k v q).symm
theorem reads_cov {b : Book} {s : Sheet} (w : Wide b s.2) (cov : ∀ k, Mark.any k ∈ s.1 → ∃ l ∈ s.2, Mark.any k ∈ l.2) : ∀ z ∈ readsAll b s.2, ∀ m ∈ s.1, (valM z m).isSome = true := fun z hz m hm => by
  cases m with
  | is c => rfl
  | any k =>
    obtain ⟨l, hl, hk⟩ := cov k hm
    obtain ⟨r, _, e⟩ := reads_no w hz l hl
    have := List.mem_map_of_mem (f := valG id z) hk
    rw [e] at this
    obtain ⟨v, _, ev⟩ := List.mem_map.mp this
    rw [val_M, ← ev]; rfl
/-- a likeness carries rows -/
theorem carries {one other : Sheet} {n : Nat} {th : List Mark} {b : Book} (h : rightL one other n th = true) (w : Wide b other.2) (cov : ∀ k, Mark.any k ∈ one.1 → ∃ l ∈ one.2, Mark.any k ∈ l.2) {row : Row} (hr : row ∈ rowsRead other b) : row ∈ rowsRead one b := by
  unfold rightL at h
  simp only [Bool.and_eq_true, decide_eq_true_eq, List.all_eq_true] at h
  obtain ⟨_, h2, h3⟩ := h
  obtain ⟨A, sat, rfl⟩ := rows_of w hr
  have ev : ∀ m, evR (fun k => evR A (th.getD k (.any k))) m = evR A (putM th m) := fun m => by cases m <;> rfl
  have evs : ∀ ms : List Mark, ms.map (evR fun k => evR A (th.getD k (.any k))) = (putBy th ms).map (evR A) := fun ms => by
    unfold putBy
    rw [List.map_map]
    exact List.map_congr_left fun m _ => ev m
  have := rows_to (s := one) (b := b) (A := fun k => evR A (th.getD k (.any k))) (fun l hl => by rw [evs]; exact sat _ (h3 l hl)) cov
  rw [evs, h2] at this
  exact this
/-! ### likenesses are found -/
theorem ledOn_yes {T : Nat → Mark} {z : Pl} {ms : List Mark} (h : Ag z T) : ∃ z', ledOn z ms (ms.map (evG Mark.is T)) = some z' ∧ Ag z' T := by
  obtain ⟨z', e, k, _⟩ := goG_yes (f := Mark.is) (ms := ms) h
  refine ⟨z', ?_, k⟩
  unfold ledOn
  rw [if_pos (by rw [List.length_map]), ledGo_go]
  exact e
theorem ledOn_no {z z' : Pl} {ms os : List Mark} (h : ledOn z ms os = some z') : (∀ k v, valA z k = some v → valA z' k = some v) ∧ ms.map (valG Mark.is z') = os.map some := by
  unfold ledOn at h
  split at h
  · rename_i hl
    rw [ledGo_go] at h
    exact goG_no hl h
  · cases h
theorem ledLines_yes {T : Nat → Mark} {os : List Line} : ∀ {ls : List Line} {z : Pl}, Ag z T → (∀ l ∈ ls, (l.1, l.2.map (evG Mark.is T)) ∈ os) → (ledLines z ls os).isSome = true
  | [], z, _, _ => rfl
  | l :: ls, z, h, hl => by
    obtain ⟨z', e, k⟩ := ledOn_yes (ms := l.2) h
    have ih := ledLines_yes (ls := ls) k fun x hx => hl x (List.mem_cons_of_mem _ hx)
    show (os.findSome? fun o => if o.1 = l.1 then (ledOn z l.2 o.2).bind fun z' => ledLines z' ls os else none).isSome = true
    rw [List.findSome?_isSome_iff]
    exact ⟨_, hl l (List.mem_cons_self ..), by rw [if_pos rfl, e]; exact ih⟩
theorem ledLines_no {os : List Line} : ∀ {ls : List Line} {z z' : Pl}, ledLines z ls os = some z' → (∀ k v, valA z k = some v → valA z' k = some v) ∧ ∀ l ∈ ls, ∃ o ∈ os, o.1 = l.1 ∧ l.2.map (valG Mark.is z') = o.2.map some
  | [], z, z', e => by cases e; exact ⟨fun _ _ h => h, fun l hl => by cases hl⟩
  | l :: ls, z, z', e => by
    have e : (os.findSome? fun o => if o.1 = l.1 then (ledOn z l.2 o.2).bind fun z' => ledLines z' ls os else none) = some z' := e
    obtain ⟨o, ho, e⟩ := List.exists_of_findSome?_eq_some e
    split at e
    · rename_i hn
      cases q : ledOn z l.2 o.2 with
      | none => rw [q] at e; cases e
      | some y =>
        rw [q] at e
        obtain ⟨k1, k2⟩ := ledOn_no q
        obtain ⟨k3, k4⟩ := ledLines_no (show ledLines y ls os = some z' from e)
        refine ⟨fun k v hv => k3 k v (k1 k v hv), fun x hx => ?_⟩
        rcases List.mem_cons.mp hx with rfl | hx
        · refine ⟨o, ho, hn, ?_⟩
          rw [← k2]
          apply List.map_congr_left
          intro m hm
          cases m with
          | is c => rfl
          | any k =>
            have := List.mem_map_of_mem (f := valG Mark.is y) hm
            rw [k2] at this
            obtain ⟨v, _, ev⟩ := List.mem_map.mp this
            show valA z' k = valA y k
            rw [k3 k v ev.symm]
            exact ev
        · exact k4 x hx
    · cases e
theorem like_cov {one other : Sheet} {n : Nat} (hn : NumsN one.2 n) {z z' : Pl} (e : ledLines z one.2 other.2 = some z') : ∀ k, k < n → (valA z' k).isSome = true := fun k hk => by
  obtain ⟨j, ej, l, hl, hm⟩ := numsOf_mem.mp ((hn.mem (k : Int)).mpr ⟨by omega, by omega⟩)
  have : j = k := by omega
  subst this
  obtain ⟨o, _, _, e2⟩ := (ledLines_no e).2 l hl
  have := List.mem_map_of_mem (f := valG Mark.is z') hm
  rw [e2] at this
  obtain ⟨v, _, ev⟩ := List.mem_map.mp this
  show (valG Mark.is z' (.any j)).isSome = true
  rw [← ev]; rfl
theorem like_right {one other : Sheet} {n : Nat} (hn : NumsN one.2 n) (uh : Under n one.1) (ul : ∀ l ∈ one.2, Under n l.2) {th : List Mark} (h : likeF one other n = some th) : rightL one other n th = true := by
  unfold likeF at h
  cases e1 : ledOn [] one.1 other.1 with
  | none => rw [e1] at h; cases h
  | some z =>
    rw [e1] at h
    cases e2 : ledLines z one.2 other.2 with
    | none =>
      have h : (ledLines z one.2 other.2).map _ = some th := h
      rw [e2] at h; cases h
    | some z' =>
      have h : (ledLines z one.2 other.2).map _ = some th := h
      rw [e2] at h
      have h := (Option.some.inj h).symm
      obtain ⟨k1, k2⟩ := ledOn_no e1
      obtain ⟨k3, k4⟩ := ledLines_no e2
      have key : ∀ ms os : List Mark, Under n ms → ms.map (valG Mark.is z') = os.map some → putBy th ms = os := fun ms os hu he => by
        have h2 : (ms.map (valG Mark.is z')).map (fun o => o.getD mk0) = (os.map some).map fun o => o.getD mk0 := by rw [he]
        rw [List.map_map, List.map_map] at h2
        rw [show ((fun o : Option Mark => o.getD mk0) ∘ some) = id from rfl, List.map_id] at h2
        rw [← h2]
        unfold putBy
        apply List.map_congr_left
        intro m hm
        cases m with
        | is c => rfl
        | any k =>
          have hk := hu k hm
          show th.getD k (.any k) = (valA z' k).getD mk0
          rw [h, List.getD_eq_getElem?_getD, List.getElem?_map, List.getElem?_range hk]
          rfl
      unfold rightL
      simp only [Bool.and_eq_true, decide_eq_true_eq, List.all_eq_true]
      refine ⟨by rw [h, List.length_map, List.length_range], key _ _ uh ?_, fun l hl => ?_⟩
      · rw [← k2]
        apply List.map_congr_left
        intro m hm
        cases m with
        | is c => rfl
        | any k =>
          have := List.mem_map_of_mem (f := valG Mark.is z) hm
          rw [k2] at this
          obtain ⟨v, _, ev⟩ := List.mem_map.mp this
          show valA z' k = valA z k
          rw [k3 k v ev.symm]
          exact ev
      · obtain ⟨o, ho, en, eo⟩ := k4 l hl
        rw [key _ _ (ul l hl) eo, ← en]
        exact ho
theorem like_found {one other : Sheet} {n : Nat} {T : Nat → Mark} (h1 : one.1.map (evG Mark.is T) = other.1) (h2 : ∀ l ∈ one.2, (l.1, l.2.map (evG Mark.is T)) ∈ other.2) : likeF one other n ≠ none := fun h => by
  unfold likeF at h
  obtain ⟨z, e, k⟩ := ledOn_yes (T := T) (z := []) (ms := one.1) (fun k v e => nomatch e)
  rw [h1] at e
  rw [e] at h
  have hs := ledLines_yes k h2
  have h : (ledLines z one.2 other.2).map _ = none := h
  cases q : ledLines z one.2 other.2 with
  | none => rw [q] at hs; cases hs
  | some y => rw [q] at h; cases h
end Z
end

section
/-! T41: the plain law: the frozen book. -/
namespace Z
open PySem PySem.Spec L2 PySem.W ZL
theorem numV_inj {a b : Nat} (ha : a ≤ 1000000000) (hb : b ≤ 1000000000) (h : numV a = numV b) : a = b := by
  unfold numV at h
  rw [dif_pos ha, dif_pos hb] at h
  have := Sum.inl.inj (congrArg Subtype.val h)
  omega
theorem range_nodup {N : Nat} (h : N ≤ 1000000000) : ((List.range N).map numV).Nodup := by
  refine List.pairwise_map.mpr ?_
  have h1 := List.nodup_range (n := N)
  refine List.Pairwise.imp_of_mem (fun {a b} ha hb hne e => hne ?_) h1
  have := List.mem_range.mp ha
  have := List.mem_range.mp hb
  exact numV_inj (by omega) (by omega) e
theorem fresh_nodup {u : List Vl} {n : Nat} (h : n + u.length ≤ 1000000000) : (freshOf u n).Nodup := by
  unfold freshOf
  exact ((range_nodup h).filter _).sublist (List.take_sublist ..)
theorem fresh_not {u : List Vl} {n : Nat} {v : Vl} (h : v ∈ freshOf u n) : v ∉ u := by
  unfold freshOf at h
  have := (List.mem_filter.mp (List.mem_of_mem_take h)).2
  simpa using this
theorem len_split {α : Type} (p : α → Bool) : ∀ l : List α, l.length = (l.filter p).length + (l.filter fun x => !p x).length
  | [] => rfl
  | x :: l => by
    have ih := len_split p l
    rw [List.filter_cons, List.filter_cons]
    cases e : p x with
    | true => simp only [if_true, Bool.not_true, Bool.false_eq_true, if_false, List.length_cons]; omega
    | false => simp only [Bool.false_eq_true, if_false, Bool.not_false, if_true, List.length_cons]; omega
theorem fresh_full {u : List Vl} {n : Nat} (h : n + u.length ≤ 1000000000) : (freshOf u n).length = n := by
  unfold freshOf
  rw [List.length_take]
  have nd := range_nodup h
  have h1 : (((List.range (n + u.length)).map numV).filter fun v : Vl => decide (v ∈ u)).length ≤ u.length := nodup_len (nd.filter _) fun x hx => by
    have := (List.mem_filter.mp hx).2
    simpa using this
  have h2 := len_split (fun v : Vl => decide (v ∈ u)) ((List.range (n + u.length)).map numV)
  rw [List.length_map, List.length_range] at h2
  omega
theorem fold_any {ms : List Mark} {z : Vd} {k : Nat} : valA (ms.foldl vdStep z) (.any k) = valA z (.any k) := by
  induction ms generalizing z with
  | nil => rfl
  | cons m ms ih =>
    rw [List.foldl_cons, ih]
    cases m with
    | any j => rfl
    | is v =>
      show valA (putA z (.is v) v) (.any k) = _
      rw [valA_put, if_neg (fun z => nomatch z)]
theorem fold_is {ms : List Mark} {z : Vd} {v : Vl} (h : Mark.is v ∈ ms ∨ valA z (.is v) = some v) : valA (ms.foldl vdStep z) (.is v) = some v := by
  induction ms generalizing z with
  | nil => exact h.elim (fun z => by cases z) id
  | cons m ms ih =>
    rw [List.foldl_cons]
    apply ih
    by_cases e : m = .is v
    · right
      subst e
      show valA (putA z (.is v) v) (.is v) = _
      rw [valA_put, if_pos rfl]
    · rcases h with h | h
      · exact .inl ((List.mem_cons.mp h).resolve_left fun z => e z.symm)
      · right
        cases m with
        | any j => exact h
        | is w =>
          show valA (putA z (.is w) w) (.is v) = _
          rw [valA_put, if_neg e]
          exact h
theorem vd0_any {fr : List Vl} {k : Nat} (hk : k < fr.length) : valA (vd0 fr) (.any k) = some fr[k] := by
  unfold vd0
  have nd : ((pairs fr).map fun q : Nat × Vl => Mark.any q.1).Nodup := by
    have e : ((pairs fr).map fun q : Nat × Vl => Mark.any q.1) = (List.range fr.length).map Mark.any := by
      unfold pairs
      rw [show (fun q : Nat × Vl => Mark.any q.1) = Mark.any ∘ Prod.fst from rfl, ← List.map_map, List.map_fst_zip (by rw [List.length_range]; exact Nat.le_refl _)]
    rw [e]
    exact List.pairwise_map.mpr ((List.nodup_range (n := fr.length)).imp fun h z => h (Mark.any.inj z))
  exact build_get (f := fun q : Nat × Vl => Mark.any q.1) (U := fun q : Nat × Vl => q.2) nd (k, fr[k]) (List.mem_iff_getElem?.mpr ⟨k, by
    unfold pairs
    rw [List.getElem?_zip_eq_some]
    exact ⟨List.getElem?_range hk, List.getElem?_eq_getElem hk⟩⟩)
/-! books of the field's tables -/
structure BOk (hs : List (Nm × Nat)) (b : Book) : Prop where
  hd : headsOf b = hs
  few : ∀ t ∈ b, t.2.2.length ≤ 6
  wd : ∀ t ∈ b, ∀ r ∈ t.2.2, r.length = t.2.1
structure HsNd (hs : List (Nm × Nat)) : Prop where
  nd : (hs.map (·.1)).Nodup
  n3 : hs.length ≤ 3
theorem BOk.names {hs : List (Nm × Nat)} {b : Book} (h : BOk hs b) : b.map (·.1) = hs.map (·.1) := by
  rw [← h.hd]
  unfold headsOf
  rw [List.map_map]
  rfl
theorem BOk.rows {hs : List (Nm × Nat)} {b : Book} (h : BOk hs b) (n : HsNd hs) {x : Nm × Nat} (hx : x ∈ hs) : ∃ t ∈ b, t.1 = x.1 ∧ t.2.1 = x.2 ∧ rowsOf b x.1 = t.2.2 := by
  rw [← h.hd] at hx
  obtain ⟨t, ht, rfl⟩ := List.mem_map.mp hx
  exact ⟨t, ht, rfl, rfl, rowsOf_mem (by rw [h.names]; exact n.nd) ht⟩
theorem BOk.wide {hs : List (Nm × Nat)} {nm : List Vl} {b : Book} {s : Sheet} {n : Nat} (h : BOk hs b) (nd : HsNd hs) (k : ShOk hs nm s n) : Wide b s.2 := fun l hl r hr => by
  obtain ⟨t, ht, e1, e2, e3⟩ := h.rows nd (k.tab l hl)
  rw [show rowsOf b l.1 = t.2.2 from e3] at hr
  rw [h.wd t ht r hr]
  exact e2
theorem BOk.read {hs : List (Nm × Nat)} {nm : List Vl} {b : Book} {s : Sheet} {n : Nat} (h : BOk hs b) (nd : HsNd hs) (k : ShOk hs nm s n) : ReadOk s b where
  nd := by rw [h.names]; exact nd.nd
  bl := by
    have e := congrArg List.length h.names
    rw [List.length_map, List.length_map] at e
    have := nd.n3
    omega
  few := h.few
  ln := k.ln
  nm := fun l hl => by
    rw [h.names]
    exact List.mem_map.mpr ⟨_, k.tab l hl, rfl⟩
  mko := fun l hl j hj => by
    have := k.under l hl j hj
    have := nums_le k.nums
    omega
  hd := Nat.le_trans k.h3 (by decide)
  cov := reads_cov (h.wide nd k) k.cov
/-! the frozen book -/
def allM (s : Sheet) : List Mark := marksOf s.2 ++ s.1
theorem allM_l {s : Sheet} {l : Line} {m : Mark} (hl : l ∈ s.2) (hm : m ∈ l.2) : m ∈ allM s := List.mem_append_left _ (marksOf_mem.mpr ⟨l, hl, hm⟩)
theorem allM_h {s : Sheet} {m : Mark} (hm : m ∈ s.1) : m ∈ allM s := List.mem_append_right _ hm
section
variable {hs : List (Nm × Nat)} {nm nr : List Vl} {s : Sheet} {n : Nat}
theorem used_is {v : Vl} (h : Mark.is v ∈ allM s) : v ∈ usedOf nr s := List.mem_append_right _ (List.mem_map.mpr ⟨.is v, List.mem_filter.mpr ⟨h, rfl⟩, rfl⟩)
theorem used_nm {v : Vl} (h : v ∈ nr) : v ∈ usedOf nr s := List.mem_append_left _ h
theorem allM_under (k : ShOk hs nm s n) {j : Nat} (h : Mark.any j ∈ allM s) : j < n := by
  rcases List.mem_append.mp h with h | h
  · obtain ⟨l, hl, hm⟩ := marksOf_mem.mp h
    exact k.under l hl j hm
  · exact k.underH j h
theorem fresh_ok (k : ShOk hs nm s n) (hn : nr.length ≤ 1000) : FreshOk nr s n := ⟨k.nums, hn, Nat.le_trans k.h3 (by decide), Nat.le_trans (nums_le k.nums) (by decide)⟩
theorem used_room (k : ShOk hs nm s n) (hn : nr.length ≤ 1000) : n + (usedOf nr s).length ≤ 1000000000 := by
  have := used_len (fresh_ok k hn)
  have := nums_le k.nums
  omega
def img (nr : List Vl) (s : Sheet) (n : Nat) (m : Mark) : Vl := (valA (vdOf nr s n) m).getD v0
theorem img_is {v : Vl} (h : Mark.is v ∈ allM s) : valA (vdOf nr s n) (.is v) = some v := fold_is (.inl h)
theorem img_any (k : ShOk hs nm s n) (hn : nr.length ≤ 1000) {j : Nat} (h : j < n) : ∃ hj : j < (freshOf (usedOf nr s) n).length, valA (vdOf nr s n) (.any j) = some (freshOf (usedOf nr s) n)[j] := by
  have e := fresh_full (used_room k hn)
  refine ⟨by omega, ?_⟩
  unfold vdOf
  rw [fold_any]
  exact vd0_any (by omega)
theorem img_some (k : ShOk hs nm s n) (hn : nr.length ≤ 1000) {m : Mark} (h : m ∈ allM s) : (valA (vdOf nr s n) m).isSome = true := by
  cases m with
  | is v => rw [img_is h]; rfl
  | any j =>
    obtain ⟨_, e⟩ := img_any k hn (allM_under k h)
    rw [e]; rfl
theorem ice_of {bs : List Book} {k0 : Book} (k : ShOk hs nm s n) (hn : nr.length ≤ 1000) (hb : bs[0]? = some k0) (hl : k0.length ≤ 1000) (hc : ∀ h ∈ hs, h.2 ≤ 3) : IceOk bs nr s n k0 where
  fr := fresh_ok k hn
  bk := hb
  bl := hl
  ln := Nat.le_trans k.ln (by decide)
  lw := fun l hl => Nat.le_trans (hc _ (k.tab l hl)) (by decide)
  cov := fun l hl m hm => img_some k hn (allM_l hl hm)
  covh := fun m hm => img_some k hn (allM_h hm)
/-- a fresh value is not used -/
theorem img_fresh (k : ShOk hs nm s n) (hn : nr.length ≤ 1000) {j : Nat} (h : j < n) : img nr s n (.any j) ∉ usedOf nr s := by
  obtain ⟨hj, e⟩ := img_any k hn h
  unfold img
  rw [e]
  exact fresh_not (List.getElem_mem hj)
theorem img_inj (k : ShOk hs nm s n) (hn : nr.length ≤ 1000) {a b : Mark} (ha : a ∈ allM s) (hb : b ∈ allM s) (h : img nr s n a = img nr s n b) : a = b := by
  cases a with
  | is v =>
    have ev : img nr s n (.is v) = v := by unfold img; rw [img_is ha]; rfl
    cases b with
    | is w =>
      have ew : img nr s n (.is w) = w := by unfold img; rw [img_is hb]; rfl
      rw [ev, ew] at h
      rw [h]
    | any j =>
      rw [ev] at h
      exact absurd (used_is (nr := nr) ha) (by rw [h]; exact img_fresh k hn (allM_under k hb))
  | any i =>
    cases b with
    | is w =>
      have ew : img nr s n (.is w) = w := by unfold img; rw [img_is hb]; rfl
      rw [ew] at h
      exact absurd (used_is (nr := nr) hb) (by rw [← h]; exact img_fresh k hn (allM_under k ha))
    | any j =>
      obtain ⟨hi, ei⟩ := img_any k hn (allM_under k ha)
      obtain ⟨hj, ej⟩ := img_any k hn (allM_under k hb)
      unfold img at h
      rw [ei, ej] at h
      have h : (freshOf (usedOf nr s) n)[i] = (freshOf (usedOf nr s) n)[j] := h
      have nd := List.pairwise_iff_getElem.mp (fresh_nodup (used_room k hn))
      by_cases x : i < j
      · exact absurd h (nd i j hi hj x)
      · by_cases y : j < i
        · exact absurd h.symm (nd j i hj hi y)
        · rw [show i = j by omega]
theorem ice_book {k0 ice : Book} (k : ShOk hs nm s n) (nd : HsNd hs) (h0 : headsOf k0 = hs) (hf : Frz k0 (vdOf nr s n) s.2 ice) : BOk hs ice := by
  obtain ⟨f1, f2⟩ := hf
  have hd : headsOf ice = hs := by rw [← h0]; exact f1
  refine ⟨hd, fun t ht => ?_, fun t ht r hr => ?_⟩
  · have h1 := nodup_len (f2 t ht).1 fun x hx => ((f2 t ht).2 x).mp hx
    have h2 : (toldOf (vdOf nr s n) s.2 t.1).length ≤ s.2.length := by
      unfold toldOf
      rw [List.length_map]
      exact List.length_filter_le ..
    have := k.ln
    omega
  · obtain ⟨l, hl, rfl⟩ := List.mem_map.mp (((f2 t ht).2 r).mp hr)
    obtain ⟨hl, en⟩ := List.mem_filter.mp hl
    have en := of_decide_eq_true en
    unfold imgOf
    rw [List.length_map]
    have h1 := k.tab l hl
    have h2 : (t.1, t.2.1) ∈ hs := by rw [← hd]; exact List.mem_map.mpr ⟨t, ht, rfl⟩
    have := nodup_map_eq nd.nd h1 h2 en
    exact congrArg Prod.snd this
theorem ice_rows {k0 ice : Book} (k : ShOk hs nm s n) (nd : HsNd hs) (h0 : headsOf k0 = hs) (hf : Frz k0 (vdOf nr s n) s.2 ice) {x : Nm × Nat} (hx : x ∈ hs) {r : Row} : r ∈ rowsOf ice x.1 ↔ ∃ l ∈ s.2, l.1 = x.1 ∧ r = imgOf (vdOf nr s n) l.2 := by
  obtain ⟨t, ht, e1, e2, e3⟩ := (ice_book k nd h0 hf).rows nd hx
  rw [e3, (hf.2 t ht).2, ← e1]
  unfold toldOf
  rw [List.mem_map]
  exact ⟨fun ⟨l, hl, e⟩ => ⟨l, (List.mem_filter.mp hl).1, of_decide_eq_true (List.mem_filter.mp hl).2, e.symm⟩, fun ⟨l, hl, en, e⟩ => ⟨l, List.mem_filter.mpr ⟨hl, decide_eq_true en⟩, e.symm⟩⟩
end
theorem map_back {α β γ : Type} {f : α → γ} {g : β → γ} {h : α → β} : ∀ {xs : List α} {ys : List β}, xs.map f = ys.map g → (∀ x ∈ xs, ∀ y ∈ ys, f x = g y → h x = y) → xs.map h = ys
  | [], [], _, _ => rfl
  | [], _ :: _, e, _ => by cases e
  | _ :: _, [], e, _ => by cases e
  | x :: xs, y :: ys, e, k => by
    rw [List.map_cons, List.map_cons] at e
    have e1 := (List.cons.inj e).1
    have e2 := (List.cons.inj e).2
    rw [List.map_cons, k x (List.mem_cons_self ..) y (List.mem_cons_self ..) e1, map_back e2 fun a ha b hb => k a (List.mem_cons_of_mem _ ha) b (List.mem_cons_of_mem _ hb)]
/-- no likeness: the frozen row is read of the one, not of the other -/
theorem frozen_law {hs : List (Nm × Nat)} {nm nr : List Vl} {one oth : Sheet} {n1 n2 : Nat} {k0 ice : Book} (k1 : ShOk hs nm one n1) (k2 : ShOk hs nm oth n2) (nd : HsNd hs) (hn : nr.length ≤ 1000) (hr : ∀ v ∈ nm, v ∈ nr) (h0 : headsOf k0 = hs) (hf : Frz k0 (vdOf nr oth n2) oth.2 ice) (hl : likeF one oth n1 = none) :
    imgOf (vdOf nr oth n2) oth.1 ∈ rowsRead oth ice ∧ imgOf (vdOf nr oth n2) oth.1 ∉ rowsRead one ice := by
  have bk := ice_book k2 nd h0 hf
  have ev : ∀ m ∈ allM oth, evR (fun k => img nr oth n2 (.any k)) m = img nr oth n2 m := fun m hm => by
    cases m with
    | any j => rfl
    | is v => unfold img; rw [img_is hm]; rfl
  constructor
  · have := rows_to (s := oth) (b := ice) (A := fun k => img nr oth n2 (.any k)) (fun l hl => ?_) k2.cov
    · have e : oth.1.map (evR fun k => img nr oth n2 (.any k)) = imgOf (vdOf nr oth n2) oth.1 := List.map_congr_left fun m hm => ev m (allM_h hm)
      rw [e] at this
      exact this
    · exact (ice_rows k2 nd h0 hf (k2.tab l hl)).mpr ⟨l, hl, rfl, List.map_congr_left fun m hm => ev m (allM_l hl hm)⟩
  · intro hrow
    obtain ⟨A, sat, e⟩ := rows_of (bk.wide nd k1) hrow
    classical
    let T : Nat → Mark := fun k => if h : ∃ m, m ∈ allM oth ∧ img nr oth n2 m = A k then h.choose else mk0
    have key : ∀ (m m' : Mark), GoodM nm m → m' ∈ allM oth → evR A m = img nr oth n2 m' → evG Mark.is T m = m' := fun m m' gd hm' he => by
      cases m with
      | is c =>
        have he : c = img nr oth n2 m' := he
        have hc : c ∈ usedOf nr oth := used_nm (hr c (gd c rfl))
        cases m' with
        | any j => exact absurd hc (by rw [he]; exact img_fresh k2 hn (allM_under k2 hm'))
        | is c' =>
          have : img nr oth n2 (.is c') = c' := by unfold img; rw [img_is hm']; rfl
          rw [this] at he
          rw [he]; rfl
      | any k =>
        have he : A k = img nr oth n2 m' := he
        have hx : ∃ m, m ∈ allM oth ∧ img nr oth n2 m = A k := ⟨m', hm', he.symm⟩
        show (if h : ∃ m, m ∈ allM oth ∧ img nr oth n2 m = A k then h.choose else mk0) = m'
        rw [dif_pos hx]
        exact img_inj k2 hn hx.choose_spec.1 hm' (hx.choose_spec.2.trans he)
    refine like_found (T := T) (map_back (f := evR A) (g := img nr oth n2) e.symm fun m hm m' hm' he => key m m' (k1.gh m hm) (allM_h hm') he) (fun l hl2 => ?_) hl
    obtain ⟨l', hl', en, er⟩ := (ice_rows k2 nd h0 hf (k1.tab l hl2)).mp (sat l hl2)
    have := map_back (f := evR A) (g := img nr oth n2) (h := evG Mark.is T) er fun m hm m' hm' he => key m m' (k1.gl l hl2 m hm) (allM_l hl' hm') he
    rw [this]
    have en : l'.1 = l.1 := en
    rw [← en]
    exact hl'
end Z
end

section
/-! T42: rules for the law's own body. -/
namespace Z
open PySem PySem.Spec L2 PySem.W ZL
variable {g : Gc}
section
variable {ι κ α : Type} {l : Lc} {M : Md} {B S_0 H_0 : Hp} {G : List Slot} {pos p p1 p2 : Pos} {a b c e : Expr} {t u : Ty} {ts us : List Ty} {rest : List Stmt} {D : Ends} {q : ι → Prop} {r : κ → Prop} {f : ι → List Ty} {h : κ → List Ty} [DecidableEq α] {T : α → Ty} {dT : α → PyData} {n : Nat}
/-- an item of a list of one's own -/
theorem x_ixO {k : Nat} (i : Nat) {x : Str} {px : Pos} {y : Addr} (hG : G[i]? = some (.own y (.lst ts))) (hi : ts[k]? = some t) (hb : XE g l M G b (tIn (k : Int))) (hN : l.N[i]? = some x := by rfl) (hv : Vis l.sc x := by first | exact Or.inl rfl | exact Or.inr (Or.inl rfl) | exact Or.inr (Or.inr rfl))
    (hd : (x == ("__debug__" : Str)) = false := by decide) (hc : (x == ("__classdict__" : Str)) = false := by decide) (hs : PlainIx b := by exact fun _ _ => rfl) : XE g l M G (.Subscript (.Name x px) b pos) t := fun X A =>
  conv (pe_ix (ixA_lst A) (pe_var (i := i) (by rw [A.N]; exact hN) (A.vis hv) hd hc) (hb X A) hs) fun σ H Q ⟨S, pr, qk⟩ => by
    obtain ⟨_, k1, k2, _⟩ := pr.2.2.at_ i _ hG
    subst k2
    refine ⟨_, k1, tE.step pr fun w S2 H2 q2 p2 h2 => ?_⟩
    cases h2
    obtain ⟨_, _, _, _, _, o, m5, zs, m6, m7⟩ := p2.2.2.at_ i _ hG
    subst m6
    obtain ⟨v, hv, hT⟩ := m7.get hi
    exact ⟨y, zs, k, v, rfl, rfl, SqL.of m5, atI_nat hv, qk v S2 H2 q2 hT⟩
/-- an item of a list of one's own is written -/
theorem xb_setO (k : Nat) (i : Nat) {x : Str} {px : Pos} {y : Addr} (hG : G[i]? = some (.own y (.lst ts))) (hk : k < ts.length) (hb : XE g l M G b (tIn (k : Int))) (he : XE g l M G e t) (kk : XB g l (Ct M B S_0 H_0 (G.set i (.own y (.lst (ts.set k t))))) rest D) (hN : l.N[i]? = some x := by rfl) (hv : Vis l.sc x := by first | exact Or.inl rfl | exact Or.inr (Or.inl rfl) | exact Or.inr (Or.inr rfl))
    (hd : (x == ("__debug__" : Str)) = false := by decide) (hc : (x == ("__classdict__" : Str)) = false := by decide) (hs : ∀ env, swapsWithSole [.Subscript (.Name x px) b p] e pos.line env = pure false := by intro _; rfl) (hw : ∀ env, swappedStores [.Subscript (.Name x px) b p] e env = pure none := by intro _; rfl)
    (h1 : ∀ env, (assignEach [.Subscript (.Name x px) b p] env).map (·.2) = [assign (.Subscript (.Name x px) b p) env] := by intro _; rfl)
    (h2 : ∀ env v, assign (.Subscript (.Name x px) b p) env v = (do
      let ov ← holding [v] (eval (.Name x px) env)
      let iv ← holding [v, ov] (eval b env)
      standAt p
      holding [v, ov, iv] (setItem ov iv v)
      release [v, ov, iv] []) := by intro _ _; rfl) : XB g l (Ct M B S_0 H_0 G) (.Assign [.Subscript (.Name x px) b p] e pos :: rest) D :=
  xb_cons (Ct M B S_0 H_0 (G.set i (.own y (.lst (ts.set k t))))) (fun X A =>
    convS (ps_asg (he X A) (pg_sub (pe_var (i := i) (by rw [A.N]; exact hN) (A.vis hv) hd hc) (hb X A) set_list (h2 _)) (hs _) (hw _) (h1 _)) fun D' σ H ⟨ct, le⟩ => by
      obtain ⟨S, c1, c2, pr⟩ := ct.get
      refine tE.step pr fun v S1 H1 q1 p1 hv1 => ?_
      obtain ⟨_, k1, k2, _⟩ := p1.2.2.at_ i _ hG
      subst k2
      refine ⟨_, k1, tE.step p1 fun w S3 H3 q3 p3 hy => ?_⟩
      cases hy
      obtain ⟨_, _, _, _, _, o, m5, zs, m6, m7⟩ := p3.2.2.at_ i _ hG
      subst m6
      have hl := m7.len
      refine ⟨y, zs, (k : Int), k, rfl, rfl, m5, ?_, le.nx _ _ ?_⟩
      · show ixN zs.length (k : Int) = some k
        unfold ixN
        split <;> simp_all <;> omega
      · exact Ct.wr ((c1.comp q1.1.ss).comp q3.1.ss) ((c2.trans q1.1).trans q3.1) p3 hG ⟨_, rfl, m7.set (t.mono q3.1.ss hv1) k⟩) kk
theorem xb_recell {q : κ → Prop} {c' : κ → Cell} {c0 : Cell} (i : Nat) {y : Addr} (hG : G[i]? = some (.own y c0)) (hc : ∀ S o, c0.is S o → ∃ j, q j ∧ (c' j).is S o) (k : ∀ j, q j → XB g l (Ct M B S_0 H_0 (G.set i (.own y (c' j)))) rest D) : XB g l (Ct M B S_0 H_0 G) rest D :=
  xb_pre (pre := fun σ H => ∃ j : { j // q j }, Ct M B S_0 H_0 (G.set i (.own y (c' j.1))) σ H) (xb_ex fun j => k j.1 j.2) fun σ H ct => by
    obtain ⟨j, hj, c⟩ := ct.recell hG hc
    exact ⟨⟨j, hj⟩, c⟩
/-! sums -/
theorem R2T_catT {K : PySem.W.Frag} (hl : ts.length + us.length ≤ 100000) : R2T (rCatA K) (tTu ts) (tTu us) (tTu (ts ++ us)) := fun S H x y Q e ⟨c, vs, h1, h2, h3⟩ ⟨d, ws, k1, k2, k3⟩ qk => by
  subst h1 k1
  refine ⟨c, d, vs, ws, rfl, rfl, SqT.of (e _ _ h2), SqT.of (e _ _ k2), ?_, fun z => ?_, fun _ z => ?_, fun _ _ w hw => ?_⟩
  · rw [← h3.len, ← k3.len]; exact Nat.le_trans hl (by decide)
  · subst z
    exact qk _ S H (Gr.refl e) ⟨d, ws, rfl, k2, h3.app k3⟩
  · subst z
    exact qk _ S H (Gr.refl e) ⟨c, vs, rfl, h2, by have := h3.app k3; rw [List.append_nil] at this; exact this⟩
  · have gr := Gr.new (o := .tup (vs ++ ws)) e hw
    exact qk _ _ _ gr ⟨w, _, rfl, upd_same, (h3.app k3).mono gr.ss⟩
theorem R2T_catL (hl : ts.length + us.length ≤ 100000) : R2T rCat (tLs ts) (tLs us) (tLs (ts ++ us)) := fun S H x y Q e ⟨c, vs, h1, h2, h3⟩ ⟨d, ws, k1, k2, k3⟩ qk => by
  subst h1 k1
  refine ⟨c, d, vs, ws, rfl, rfl, e _ _ h2, e _ _ k2, ?_, fun w hw => ?_⟩
  · rw [← h3.len, ← k3.len]; exact Nat.le_trans hl (by decide)
  · have gr := Gr.new (o := .lst (vs ++ ws)) e hw
    exact qk _ _ _ gr ⟨w, _, rfl, upd_same, (h3.app k3).mono gr.ss⟩
theorem x_catEE (ha : XE g l M G a (tEx q fun j => tTu (f j))) (hb : XE g l M G b (tEx r fun k => tTu (h k))) (hl : ∀ j k, q j → r k → (f j).length + (h k).length ≤ 100000) : XE g l M G (.BinOp a .Add b pos) (tEx (fun z : ι × κ => q z.1 ∧ r z.2) fun z => tTu (f z.1 ++ h z.2)) :=
  x_op (f := rCatA g.K) (fun X A => by rw [← A.K]; exact op_catA) (R2T_ex fun i j h1 h2 => (R2T_catT (hl i j h1 h2)).sub fun S v k => ⟨(i, j), ⟨h1, h2⟩, k⟩) ha hb
theorem x_catLL (ha : XE g l M G a (tEx q fun j => tLs (f j))) (hb : XE g l M G b (tEx r fun k => tLs (h k))) (hl : ∀ j k, q j → r k → (f j).length + (h k).length ≤ 100000) : XE g l M G (.BinOp a .Add b pos) (tEx (fun z : ι × κ => q z.1 ∧ r z.2) fun z => tLs (f z.1 ++ h z.2)) :=
  x_op (f := rCat) (fun X A => op_cat) (R2T_ex fun i j h1 h2 => (R2T_catL (hl i j h1 h2)).sub fun S v k => ⟨(i, j), ⟨h1, h2⟩, k⟩) ha hb
/-! in, not in, over tuples of some kind -/
theorem R2T.ex2 {f : R2} {T : κ → Ty} {z : Ty} (h : ∀ i, r i → R2T f t (T i) z) : R2T f t (tEx r T) z := fun S H x y Q e hx ⟨i, hi, hy⟩ k => h i hi S H x y Q e hx hy k
theorem x_inTE (E : Enc α T dT n) {x : α} {r : List α → Prop} {y : Bool} (ha : XE g l M G a (T x)) (hb : XE g l M G b (tEx r fun xs => tTu (xs.map T))) (hy : ∀ xs, r xs → decide (x ∈ xs) = y) (hn : n ≤ 60 := by decide) (hm : behindInMarks .In b = false := by rfl) : XE g l M G (.Compare a [.In] [b] pos) (tBl y) :=
  x_cmp (f := rInT g.K false) (fun X A => by rw [← A.K]; exact op_inT (units65 A)) (R2T.ex2 fun xs hxs => (R2T_in (K := g.K) (neg := false) (E.isD x) (E.seqT xs) ((E.dt x).shaped (by omega)) ((dt_lst (E.all xs)).shaped (by omega))).sub fun S v k => by
    rw [Bool.false_xor, any_mem E.eqv, hy xs hxs] at k
    exact k) ha hb hm
theorem x_niTE (E : Enc α T dT n) {x : α} {r : List α → Prop} {y : Bool} (ha : XE g l M G a (T x)) (hb : XE g l M G b (tEx r fun xs => tTu (xs.map T))) (hy : ∀ xs, r xs → (!decide (x ∈ xs)) = y) (hn : n ≤ 60 := by decide) (hm : behindInMarks .NotIn b = false := by rfl) : XE g l M G (.Compare a [.NotIn] [b] pos) (tBl y) :=
  x_cmp (f := rInT g.K true) (fun X A => by rw [← A.K]; exact op_niT (units65 A)) (R2T.ex2 fun xs hxs => (R2T_in (K := g.K) (neg := true) (E.isD x) (E.seqT xs) ((E.dt x).shaped (by omega)) ((dt_lst (E.all xs)).shaped (by omega))).sub fun S v k => by
    rw [Bool.true_xor, any_mem E.eqv, hy xs hxs] at k
    exact k) ha hb hm
theorem xt_eqLE (E : Enc α T dT n) {r : α → Prop} {x : α} {y : Bool} (ha : XE g l M G a (tEx r T)) (hb : XE g l M G b (T x)) (hy : ∀ z, r z → decide (z = x) = y) (hn : n ≤ 60 := by decide) : XTb g l M G (.Compare a [.Eq] [b] pos) y :=
  xt_cmp (fun X A => op_eqA A) (R2T.ex1 fun z hz => (R2T_eqD (E.isD z) (E.isD x) ((E.dt z).shaped (by omega)) ((E.dt x).shaped (by omega))).sub (sub_bl (by rw [E.eqv]; exact hy z hz))) ha hb
end
/-! the mode ahead of the state -/
def tbM (P : Addr) (q : Str) : Md where
  dom := no
  ch := fun b => b = P
  inv := fun S H => S P = none ∧ LamX.TabS H P q
  al := fun {S H b} ⟨_, k⟩ e => by
    subst e
    obtain ⟨ps, k, _⟩ := k
    exact ⟨_, k⟩
  stab := fun {S H S' H'} k kc ⟨hs, ht⟩ => by
    refine ⟨?_, tabS_old ht (fun ps e => (k P _ rfl e).1) fun c e => kc c q e⟩
    obtain ⟨ps, e, _⟩ := ht
    rw [(k P _ rfl e).2 trivial]
    exact hs
def stG (n : Nat) : List Slot := List.replicate n .unk
theorem law_switch {P p : Addr} {d : Addr → Prop} {B S_0 H_0 : Hp} {ns : List Int} {n : Nat} {σ : L2.St} {H : Hp} (ct : Ct { tbM P lamQ with dom := d } B S_0 H_0 (.ty (tScr g.K ns) :: .own p (.lst [tScr g.K ns, tIn 0, tIn 0, tIn 59]) :: stG n) σ H) :
    ∃ z : Addr × Hp × Hp, Ct { stM2 p z.1 P lamQ with dom := fun a => z.2.2 a ≠ none } z.2.1 z.2.1 z.2.2 (.ty (tScr g.K ns) :: .ty (tSta g.K p z.1 ns) :: stG n) σ H := by
  obtain ⟨S, c1, c2, pr⟩ := ct.get
  obtain ⟨x, k1, k2, k3, k4, o, k5, vs, k6, k7⟩ := pr.2.2.at_ 1 _ rfl
  subst k2 k6
  obtain ⟨w, ws, rfl⟩ : ∃ w ws, vs = w :: ws := by cases k7; exact ⟨_, _, rfl⟩
  cases k7 with
  | cons h1 h2 =>
    obtain ⟨a, b, c, rfl, e1, e2, e3⟩ := h2.three
    cases e1
    cases e2
    cases e3
    obtain ⟨sc, rfl, hq⟩ := h1
    refine ⟨(sc, S, H), S, Ex.rfl', ⟨Gr.refl pr.1, fun a => Iff.rfl⟩, ⟨⟨k4, 0, 0, 59, ⟨by decide, by decide⟩, k5⟩, pr.2.1⟩, pr.2.2.len, fun i s hi => ?_, fun i j y c z e hi hj ne => ?_⟩
    · match i, hi with
      | 0, hi =>
        cases hi
        obtain ⟨x0, m1, m2⟩ := pr.2.2.at_ 0 _ rfl
        exact ⟨x0, m1, m2⟩
      | 1, hi =>
        cases hi
        exact ⟨_, k1, _, rfl, rfl, hq⟩
      | i + 2, hi =>
        have hi : (stG n)[i]? = some s := hi
        obtain ⟨x0, m1, _⟩ := pr.2.2.at_ (i + 2) s hi
        have : s = .unk := List.eq_of_mem_replicate (List.mem_of_getElem? hi)
        subst this
        exact ⟨x0, m1, trivial⟩
    · match i, hi with
      | 0, hi => cases hi
      | 1, hi => cases hi
      | i + 2, hi =>
        have hi : (stG n)[i]? = some (Slot.own y c) := hi
        have := List.eq_of_mem_replicate (List.mem_of_getElem? hi)
        cases this
end Z
end

section
/-! T43: the law's books. -/
namespace Z
open PySem PySem.Spec L2 PySem.W ZL
theorem flat_lenM {α β : Type} {f : α → List β} {n : Nat} : ∀ {xs : List α}, (∀ x ∈ xs, (f x).length ≤ n) → (xs.flatMap f).length ≤ xs.length * n
  | [], _ => by simp
  | x :: xs, h => by
    rw [List.flatMap_cons, List.length_append, List.length_cons, Nat.succ_mul]
    have h1 := h x (List.mem_cons_self ..)
    have h2 := flat_lenM (xs := xs) fun y hy => h y (List.mem_cons_of_mem _ hy)
    omega
theorem ltN_ne {a b : Nm} (h : ltN a b) (e : a = b) : False := by
  subst e
  exact List.lt_irrefl _ h
theorem tabs_nd {w : Nat} {hs : List (Nm × Nat)} (h : TabsOk w hs) : HsNd hs := ⟨List.pairwise_map.mpr (h.up.imp fun h e => ltN_ne h e), h.n3⟩
section
variable {hs : List (Nm × Nat)} {vs : List Vl} {m : Nat} {k : Book}
theorem bkIn_len (h : BkIn hs m vs k) : k.length = hs.length := by
  rw [← h.1]
  unfold headsOf
  rw [List.length_map]
theorem bkIn_ok (h : BkIn hs m vs k) (hm : m ≤ 6) : BOk hs k := ⟨h.1, fun t ht => Nat.le_trans (h.2 t ht).1 hm, fun t ht r hr => ((h.2 t ht).2.1 r hr).1⟩
theorem bkIn_book (h : BkIn hs 4 vs k) (T : TabsOk 3 hs) (hv : vs.length ≤ 3) : BookOk k := by
  have hl := bkIn_len h
  have hc : ∀ t ∈ k, 1 ≤ t.2.1 ∧ t.2.1 ≤ 3 := fun t ht => T.col (t.1, t.2.1) (by rw [← h.1]; exact List.mem_map.mpr ⟨t, ht, rfl⟩)
  have hall : ∀ v ∈ valsOf k, v ∈ vs := fun v hv => by
    obtain ⟨t, ht, h1⟩ := List.mem_flatMap.mp hv
    obtain ⟨r, hr, h2⟩ := List.mem_flatMap.mp h1
    exact ((h.2 t ht).2.1 r hr).2 v h2
  refine ⟨by rw [hl]; exact T.n1, by rw [hl]; exact T.n3, fun t ht => ⟨(hc t ht).1, (hc t ht).2, Nat.le_trans (h.2 t ht).1 (by decide), fun r hr => ((h.2 t ht).2.1 r hr).1, (h.2 t ht).2.2⟩, ?_, fun r hr => ?_, ?_⟩
  · have u := T.up
    rw [← h.1] at u
    have u2 := List.pairwise_map.mp (show ((k.map fun t => (t.1, t.2.1)).Pairwise fun a b => ltN a.1 b.1) from u)
    exact u2
  · have := nodup_len (m := vs) hr.1 fun x hx => hall x ((hr.2 x).mp hx)
    omega
  · have h1 : (valsOf k).length ≤ k.length * 12 := flat_lenM fun t ht => by
      have h2 : (t.2.2.flatMap id).length ≤ t.2.2.length * 3 := flat_lenM fun r hr => by
        have e : r.length = t.2.1 := ((h.2 t ht).2.1 r hr).1
        have := (hc t ht).2
        show r.length ≤ 3
        omega
      have h3 : t.2.2.length ≤ 4 := (h.2 t ht).1
      omega
    have := T.n3
    omega
end
theorem bks_ok {hs : List (Nm × Nat)} {vs : List Vl} {bs : List Book} (h : BksIn hs 4 vs bs) (T : TabsOk 3 hs) (hv : vs.length ≤ 3) : BooksOk bs := ⟨h.n1, Nat.le_trans h.n2 (by decide), fun k hk => bkIn_book (h.bk k hk) T hv, fun k hk k' hk' => by rw [(h.bk k hk).1, (h.bk k' hk').1]⟩
theorem like_ok {hs : List (Nm × Nat)} {nm : List Vl} {one oth : Sheet} {n : Nat} (k : ShOk hs nm one n) : LikeOk one oth n := by
  have n60 := nums_le k.nums
  exact ⟨fun j hj => by have := k.underH j hj; omega, fun l hl j hj => by have := k.under l hl j hj; omega, k.ln, k.nums, by omega, fun z z' _ e2 => like_cov k.nums e2⟩
theorem right_ok {hs : List (Nm × Nat)} {nm : List Vl} {one : Sheet} {n : Nat} (k : ShOk hs nm one n) (hc : ∀ h ∈ hs, h.2 ≤ 3) : RightOk one n :=
  ⟨k.nums, k.underH, k.under, Nat.le_trans k.h3 (by decide), Nat.le_trans k.ln (by decide), fun l hl => Nat.le_trans (hc _ (k.tab l hl)) (by decide)⟩
end Z
end

section
/-! T44: law. -/
namespace Z
open PySem PySem.Spec L2 PySem.W ZL
variable {g : Gc}
abbrev lawN : List Str := ["_law_script", "_law_state", "_law_data_here", "_law_field_here", "_law_tables_here", "_law_one", "_law_other", "_law_pool_here", "_law_books_here", "_law_told", "_law_ice", "_law_row", "_law_thing", "_law_book", "_law_there"]
abbrev lawL : Lc := ⟨lawN, defScope (top 78), 12, fun _ => true⟩
abbrev lawD : Ends := { nx := fun _ _ => False, rt := fun v _ => v = .bl true }
abbrev FnRight (g : Gc) := Fn g "right_likeness" 4 (Spp (fun q : Rl => [tSh q.1.1, tSh q.1.2.1, tMs q.1.2.2.2]) (fun q => tBl (rightL q.1.1 q.1.2.1 q.1.2.2.1 q.1.2.2.2)))
structure LawF (g : Gc) (C P : Addr) : Prop where
  gb : Gb g
  take : FnTake g
  data : FnData g P
  field : FnLfield g C
  heads : FnHeads2 g
  some : FnSome g P
  more : FnMore g P
  pool : FnPool g
  books : FnLbooks g P
  frozen : FnFrozen g C
  frow : FnFrow g C
  like : FnLike g
  reads : FnReads g
  things : FnThings g P
  right : FnRight g
abbrev gL (g : Gc) (q : Stq) (bs : List Book) (nm : List Vl) (ds : List Nm) (C : Addr) (nr : List Vl) (hs : List (Nm × Nat)) (one oth : Sheet) (s7 s8 s9 s10 s11 s12 s13 s14 : Slot) : List Slot := [.ty (tScr g.K q.ns), .ty (q.ty g), .ty (tLs [tBks bs, tVls nm, tTu (ds.map tNm)]), .ty (tFd C bs nr), .ty (tLs (hs.map tHd)), .ty (tSh one), .ty (tSh oth), s7, s8, s9, s10, s11, s12, s13, s14]
/-- what the law has made -/
structure Made (q : Stq) (bs : List Book) (nm nr : List Vl) (hs : List (Nm × Nat)) (one oth : Sheet) (n1 n2 : Nat) (k0 : Book) : Prop where
  nd : HsNd hs
  col : ∀ h ∈ hs, h.2 ≤ 3
  k1 : ShOk hs nm one n1
  k2 : ShOk hs nm oth n2
  hn : nr.length ≤ 1000
  hr : ∀ v ∈ nm, v ∈ nr
  h0 : headsOf k0 = hs
  b0 : bs[0]? = some k0
theorem Made.ice1 {q : Stq} {bs : List Book} {nm nr : List Vl} {hs : List (Nm × Nat)} {one oth : Sheet} {n1 n2 : Nat} {k0 : Book} (h : Made q bs nm nr hs one oth n1 n2 k0) : IceOk bs nr one n1 k0 := ice_of h.k1 h.hn h.b0 (by
  have := h.nd.n3
  have e := congrArg List.length h.h0
  unfold headsOf at e
  rw [List.length_map] at e
  omega) h.col
theorem Made.ice2 {q : Stq} {bs : List Book} {nm nr : List Vl} {hs : List (Nm × Nat)} {one oth : Sheet} {n1 n2 : Nat} {k0 : Book} (h : Made q bs nm nr hs one oth n1 n2 k0) : IceOk bs nr oth n2 k0 := ice_of h.k2 h.hn h.b0 (by
  have := h.nd.n3
  have e := congrArg List.length h.h0
  unfold headsOf at e
  rw [List.length_map] at e
  omega) h.col
section
variable {C P : Addr} {M : Md} {B S_0 H_0 : Hp} {q : Stq} {bs : List Book} {nm nr : List Vl} {ds : List Nm} {hs : List (Nm × Nat)} {one oth : Sheet} {n1 n2 : Nat} {k0 : Book} {s7 s8 s9 s10 s11 s12 s13 s14 : Slot}
/-- no likeness: the frozen row -/
theorem law_none (L : LawF g C P) (h : Made q bs nm nr hs one oth n1 n2 k0) (hl : likeF one oth n1 = none) :
    XB g lawL (Ct M B S_0 H_0 (gL g q bs nm ds C nr hs one oth s7 s8 s9 s10 s11 s12 s13 s14)) ((match (defBody (top 78)).getD 11 (.Pass ⟨0, 0, 0, 0⟩) with | .If _ b _ _ => b | _ => [])) { lawD with nx := fun _ _ => False } := by
  refine xb_set 10 (t := tEx (Frz k0 (vdOf nr oth n2) oth.2) tBk) (x_callI L.frozen ⟨(bs, nr, oth, n2, k0), h.ice2⟩ (xa_2 (x_var 3) (x_var 6)) trivial) (xb_open 10 rfl fun ice hice => ?_)
  refine xb_set 11 (t := tRow (imgOf (vdOf nr oth n2) oth.1)) (x_callI L.frow ⟨(bs, nr, oth, n2, k0), h.ice2⟩ (xa_2 (x_var 3) (x_var 6)) trivial) ?_
  have bk := ice_book h.k2 h.nd h.h0 hice
  obtain ⟨m1, m2⟩ := frozen_law h.k1 h.k2 h.nd h.hn h.hr h.h0 hice hl
  refine xb_ret (t := tBl true) (x_andB (x := true) (y := true) (x_inTE encRow (x := imgOf (vdOf nr oth n2) oth.1) (r := Same (rowsRead oth ice)) (x_var 11) (x_callI L.reads ⟨(oth, ice), bk.read h.nd h.k2⟩ (xa_2 (x_var 6) (x_var 10)) trivial) fun xs hxs => decide_eq_true ((hxs.2 _).mpr m1)) fun _ => x_one (x_niTE encRow (x := imgOf (vdOf nr oth n2) oth.1) (r := Same (rowsRead one ice)) (x_var 11) (x_callI L.reads ⟨(one, ice), bk.read h.nd h.k1⟩ (xa_2 (x_var 5) (x_var 10)) trivial) fun xs hxs => ?_)) fun v S H _ _ _ hv => hv
  rw [decide_eq_false fun z => m2 ((hxs.2 _).mp z)]
  rfl
/-- a likeness: over each book -/
theorem law_some (L : LawF g C P) (hM : IsM q P M) (h : Made q bs nm nr hs one oth n1 n2 k0) (ok : HsOk hs nm) {th : List Mark} (hl : likeF one oth n1 = some th) {Bs : List Book} (hB : ∀ b ∈ Bs, BOk hs b) :
    XB g lawL (Ct M B S_0 H_0 (gL g q bs nm ds C nr hs one oth s7 (.ty (tBks Bs)) (.ty (tMs th)) s10 .unk .unk .unk .unk)) ((defBody (top 78)).drop 12) lawD := by
  have rt := like_right h.k1.nums h.k1.underH h.k1.under hl
  have tl : th.length ≤ 100 := by
    unfold rightL at rt
    simp only [Bool.and_eq_true, decide_eq_true_eq] at rt
    have := nums_le h.k1.nums
    omega
  have rok := right_ok h.k1 h.col
  refine xb_when (xt_eqLE encMs.lst (r := fun l : List (List Mark) => l ≠ []) (x := []) (y := false) (x_sub (x_lcX (κ := List (List Mark)) (q := fun zs => ∃ ys, ThsOk ys ∧ zs = ys ++ [th]) (f := fun zs => zs.map tMs) (B := fun zs i b => ∀ t, zs[i]? = some t → b = rightL one oth n1 t) (u := fun zs => atOr zs tMs tNon) (own := [("_law_thing", 12)]) (vs := [12]) (G1 := fun zs => atOr zs (fun t => gL g q bs nm ds C nr hs one oth s7 (.ty (tBks Bs)) (.ty (tMs th)) s10 .unk (.ty (tMs t)) .unk .unk) []) rfl
    (xix_list (x_catX (xs := [th]) (q := ThsOk) (x_callI L.things ⟨q, hs, nm, one, n1, oth, n2, ok, h.k1, h.k2⟩ (xa_3 (x_var 1) (x_var 5) (x_var 6)) hM) (x_lst (ts := [tMs th]) (xa_1 (x_var 9))) fun ys hys => by have := hys.1; show ys.length + 1 ≤ _; omega)) (blkOk_by (by decide +kernel)) (fun zs hz => ?_) (fun zs i t hz hit => ?_) (fun zs i t hz hit => ?_) fun zs i t hz hit _ => ?_) ?_) (x_lst xa_nil) fun z hz => decide_eq_false hz) (fun h => nomatch h) fun _ => ?_
  · obtain ⟨ys, h1, rfl⟩ := hz
    have := h1.1
    rw [List.length_map, List.length_append]
    show ys.length + 1 ≤ _
    omega
  · obtain ⟨x, hx, hm, rfl⟩ := map_get hit
    rw [atOr_eq hx]
    exact xg_name 12
  · obtain ⟨x, hx, hm, rfl⟩ := map_get hit
    rw [atOr_eq hx]
    obtain ⟨ys, h1, rfl⟩ := hz
    have xl : x.length ≤ 1000 := by
      rcases List.mem_append.mp hm with hm | hm
      · exact Nat.le_trans (h1.2 x hm) (by decide)
      · rw [List.mem_singleton.mp hm]; omega
    exact xts_one (xt_sub (xt_bl (x_callI L.right ⟨(one, oth, n1, x), rok, xl⟩ (xa_3 (x_var 5) (x_var 6) (x_var 12)) trivial)) fun y e t ht => by rw [hx] at ht; cases ht; exact e)
  · obtain ⟨x, hx, hm, rfl⟩ := map_get hit
    rw [atOr_eq hx, atOr_eq hx]
    exact x_var 12
  · rintro S v ⟨⟨zs, ff⟩, ⟨⟨ys, h1, rfl⟩, h2⟩, h3⟩
    have h2 : Picks ((ys ++ [th]).map tMs).length (fun i b => ∀ t, (ys ++ [th])[i]? = some t → b = rightL one oth n1 t) ff := h2
    have h3 : (tLs (picked ((ys ++ [th]).map tMs).length ff (atOr (ys ++ [th]) tMs tNon))).is S v := h3
    rw [List.length_map] at h2 h3
    rw [picked_map (xs := ys ++ [th]) (f := fun t => rightL one oth n1 t) (U := tMs) (h := ff) (u := atOr (ys ++ [th]) tMs tNon) (fun i x hx => atOr_eq hx) fun i x hx => h2 i (List.getElem?_eq_some_iff.mp hx).1 x hx] at h3
    refine ⟨(ys ++ [th]).filter fun t => rightL one oth n1 t, fun z => ?_, h3⟩
    have hm : th ∈ (ys ++ [th]).filter fun t => rightL one oth n1 t := List.mem_filter.mpr ⟨by simp, rt⟩
    rw [z] at hm
    cases hm
  refine xb_for (ts := Bs.map tBk) (fun i (_ : Unit) => True) (fun i _ => gL g q bs nm ds C nr hs one oth s7 (.ty (tBks Bs)) (.ty (tMs th)) s10 .unk .unk .unk .unk) (G1 := fun i _ => match Bs[i]? with
    | some k => gL g q bs nm ds C nr hs one oth s7 (.ty (tBks Bs)) (.ty (tMs th)) s10 .unk .unk (.ty (tBk k)) .unk
    | none => []) (vs := [13]) (xi_tup (x_var 8)) () trivial rfl (fun i _ t hit _ => ?_) (fun i _ t B' hit _ _ => ?_) fun _ _ => ?_
  · obtain ⟨k, hk, _, rfl⟩ := map_get hit
    rw [hk]
    exact xg_name 13
  · obtain ⟨k, hk, hkm, rfl⟩ := map_get hit
    rw [hk]
    have bk := hB k hkm
    refine xb_set 14 (t := tEx (Same (rowsRead one k)) tRows) (x_callI L.reads ⟨(one, k), bk.read h.nd h.k1⟩ (xa_2 (x_var 5) (x_var 13)) trivial) (xb_open 14 rfl fun r1 hr1 => ?_)
    have rl : (rowsRead oth k).length ≤ 7776 := by
      have c := ((bk.read h.nd h.k2).count oth.2.length (Nat.le_refl _)).1
      rw [List.take_length] at c
      show (List.map _ (readsAll k oth.2)).length ≤ _
      rw [List.length_map]
      exact Nat.le_trans c (pow_le h.k2.ln)
    refine xb_one (xs_if (xt_is (y := false) (xt_neE encRow.lst (x := []) (y := []) (x_sub (x_lcX (κ := List Row) (q := Same (rowsRead oth k)) (f := fun r => r.map tRow) (B := fun r i b => ∀ x, r[i]? = some x → b = !decide (x ∈ r1)) (u := fun r => atOr r tRow tNon) (own := [("_law_row", 11)]) (vs := [11]) (G1 := fun r => atOr r (fun x => gL g q bs nm ds C nr hs one oth s7 (.ty (tBks Bs)) (.ty (tMs th)) s10 (.ty (tRow x)) .unk (.ty (tBk k)) (.ty (tRows r1))) []) rfl
      (xix_tup (x_callI L.reads ⟨(oth, k), bk.read h.nd h.k2⟩ (xa_2 (x_var 6) (x_var 13)) trivial)) (blkOk_by (by decide +kernel)) (fun r hr => ?_) (fun r i t hr hit => ?_) (fun r i t hr hit => ?_) fun r i t hr hit _ => ?_) ?_) (x_lst xa_nil)) rfl) (fun h => nomatch h) fun _ => xb_nil fun σ H ct => ⟨(), trivial, ct.forget⟩)
    · have := nodup_len hr.1 fun x hx => (hr.2 x).mp hx
      rw [List.length_map]
      omega
    · obtain ⟨x, hx, hm, rfl⟩ := map_get hit
      rw [atOr_eq hx]
      exact xg_name 11
    · obtain ⟨x, hx, hm, rfl⟩ := map_get hit
      rw [atOr_eq hx]
      exact xts_one (xt_sub (xt_niT encRow (x_var 11) (x_var 14)) fun y e t ht => by rw [hx] at ht; cases ht; exact e)
    · obtain ⟨x, hx, hm, rfl⟩ := map_get hit
      rw [atOr_eq hx, atOr_eq hx]
      exact x_var 11
    · intro S v ⟨⟨r, ff⟩, ⟨h1, h2⟩, h3⟩
      have h2 : Picks (r.map tRow).length (fun i b => ∀ x, r[i]? = some x → b = !decide (x ∈ r1)) ff := h2
      have h3 : (tLs (picked (r.map tRow).length ff (atOr r tRow tNon))).is S v := h3
      rw [List.length_map] at h2 h3
      rw [picked_map (xs := r) (f := fun x => !decide (x ∈ r1)) (U := tRow) (h := ff) (u := atOr r tRow tNon) (fun i x hx => atOr_eq hx) fun i x hx => h2 i (List.getElem?_eq_some_iff.mp hx).1 x hx] at h3
      have e : (r.filter fun x => !decide (x ∈ r1)) = [] := List.filter_eq_nil_iff.mpr fun x hx => by
        have := carries rt (bk.wide h.nd h.k2) h.k1.cov ((h1.2 x).mp hx)
        rw [decide_eq_true ((hr1.2 x).mpr this)]
        decide
      rw [e] at h3
      exact h3
  · exact xb_ret (t := tBl true) x_bl fun v S H _ _ _ hv => hv
end
end Z
end

section
set_option maxHeartbeats 2000000
/-! T45: law, whole. -/
namespace Z
open PySem PySem.Spec L2 PySem.W ZL
variable {g : Gc}
def spLaw (K : PySem.W.Frag) (P : Addr) : Sp := fun vs H Q _ => ∃ (a : Addr) (ns : List Int), vs = [.ref a] ∧ SqL K H a (ns.map V.int) ∧ H P = some (.tbl #[]) ∧ ∀ H', Q (.bl true) H'
theorem dat_open {S : Hp} {o : HO} (h : datC.is S o) : ∃ z : List Book × List Vl × List Nm, (BksD z.1 ∧ NmD z.2.1 ∧ DdD z.2.2) ∧ (Cell.lst [tBks z.1, tVls z.2.1, tTu (z.2.2.map tNm)]).is S o := by
  obtain ⟨vs, e, h⟩ := h
  obtain ⟨a, b, c, rfl, ⟨bs, h1, k1⟩, ⟨ms, h2, k2⟩, ⟨ds, h3, k3⟩⟩ := h.three
  exact ⟨(bs, ms, ds), ⟨h1, h2, h3⟩, _, e, .cons k1 (.cons k2 (.cons k3 .nil))⟩
theorem two_last {S : Hp} {ι κ : Type} {q : ι → Prop} {r : κ → Prop} {f : ι → Ty} {h : κ → Ty} {ts : List Ty} : Sub (tTu (ts ++ [tEx q f, tEx r h])) (tEx (fun z : ι × κ => q z.1 ∧ r z.2) fun z => tTu (ts ++ [f z.1, h z.2])) := fun S v ⟨a, vs, e1, e2, e3⟩ => by
  rw [show ts ++ [tEx q f, tEx r h] = (ts ++ [tEx q f]) ++ [tEx r h] by simp] at e3
  obtain ⟨ws, w, rfl, k1, j, k2, k3⟩ := tys_last e3
  obtain ⟨xs, x, rfl, m1, i, m2, m3⟩ := tys_last k1
  exact ⟨(i, j), ⟨m2, k2⟩, a, _, e1, e2, by
    have := (m1.snoc m3).snoc k3
    simpa using this⟩
theorem law_end {C P : Addr} {M : Md} {B S_0 H_0 : Hp} {q : Stq} {bs : List Book} {nm nr : List Vl} {ds : List Nm} {hs : List (Nm × Nat)} {one oth : Sheet} {n1 n2 : Nat} {k0 : Book} {s7 s9 s10 : Slot} (L : LawF g C P) (hM : IsM q P M) (h : Made q bs nm nr hs one oth n1 n2 k0) (ok : HsOk hs nm) {Bs : List Book} (hB : ∀ b ∈ Bs, BOk hs b) :
    XB g lawL (Ct M B S_0 H_0 (gL g q bs nm ds C nr hs one oth s7 (.ty (tBks Bs)) s9 s10 .unk .unk .unk .unk)) ((defBody (top 78)).drop 10) lawD := by
  refine xb_set 9 (t := tOpt tMs (likeF one oth n1)) (x_callI L.like ⟨(one, oth, n1), like_ok h.k1⟩ (xa_2 (x_var 5) (x_var 6)) trivial) ?_
  cases hl : likeF one oth n1 with
  | none => exact xb_when (xt_is (y := true) (xt_isN (v := .non) (x_var 9)) rfl) (fun _ => law_none L h hl) fun h => nomatch h
  | some th => exact xb_when (xt_isN0 (notN_tu (ts := th.map tMk)) (x_var 9)) (fun h => nomatch h) fun _ => law_some L hM h ok hl hB
theorem law_body {C P : Addr} {M : Md} {B S_0 H_0 : Hp} {q : Stq} (L : LawF g C P) (hM : IsM q P M) : XB g lawL (Ct M B S_0 H_0 (.ty (tScr g.K q.ns) :: .ty (q.ty g) :: stG 13)) ((defBody (top 78)).drop 1) lawD := by
  have b := L.gb
  refine xb_own 2 (x_callF L.data q (xa_4 (x_var 1) x_int x_int x_int) hM) fun _ P1 _ => ?_
  refine xb_recell (κ := List Book × List Vl × List Nm) (q := fun z => BksD z.1 ∧ NmD z.2.1 ∧ DdD z.2.2) (c' := fun z => .lst [tBks z.1, tVls z.2.1, tTu (z.2.2.map tNm)]) 2 rfl (fun S o h => dat_open h) fun z hz => ?_
  obtain ⟨bs, ms, ds⟩ := z
  obtain ⟨⟨hs, vs, hT, hP, hB⟩, hm3, hd1, hd2⟩ := hz
  have hm3 : ms.length ≤ 3 := hm3
  have hB : BksIn hs 4 vs bs := hB
  have hd1 : ds.length ≤ 9 := hd1
  have hd2 : ∀ x ∈ ds, x ∈ deedsW := hd2
  refine xb_setO (t := tVls (ms.take 1 ++ [v0, v1])) 1 2 rfl (by show 1 < 3; decide) x_int (x_ty (x_catT (ts := (ms.map tVl).take 1) (us := [tIn 0, tIn 1]) (x_slT_to (k := 1) (ts := ms.map tVl) (x_ixO (t := tVls ms) (k := 1) 2 rfl rfl x_int) x_int) (x_tup (ts := [tIn 0, tIn 1]) (xa_2 x_int x_int)) (by rw [List.length_take]; show _ + 2 ≤ _; omega)) (by unfold tVls; rw [List.map_append, List.map_take]; rfl)) ?_
  obtain ⟨nm, enm⟩ : ∃ nm, nm = ms.take 1 ++ [v0, v1] := ⟨_, rfl⟩
  rw [← enm]
  have nl : 2 ≤ nm.length ∧ nm.length ≤ 3 := by rw [enm, List.length_append, List.length_take]; show 2 ≤ _ + 2 ∧ _ + 2 ≤ 3; omega
  have nv1 : v1 ∈ nm := by rw [enm]; simp
  refine xb_frz 2 rfl ?_
  have bok := bks_ok hB hT hP.2
  refine xb_set 3 (t := tEx (Same nm) (tFd C bs)) (x_callI L.field ⟨(bs, nm, ds), bok, nl.2, by show ds.length ≤ 1000; omega, hd2⟩ (xa_1 (x_var 2)) trivial) (xb_open 3 rfl fun nr hnr => ?_)
  have hnl : nr.length ≤ 1000 := by
    have := nodup_len hnr.1 fun x hx => (hnr.2 x).mp hx
    omega
  obtain ⟨k0, bs', ebs⟩ : ∃ k0 bs', bs = k0 :: bs' := by
    cases bs with
    | nil => exact absurd (show 1 ≤ 0 from bok.n1) (by decide)
    | cons k0 bs' => exact ⟨k0, bs', rfl⟩
  have hk0 : k0 ∈ bs := by rw [ebs]; exact List.mem_cons_self ..
  have h0 : headsOf k0 = hs := (hB.bk k0 hk0).1
  have kl : k0.length ≤ 3 := by rw [bkIn_len (hB.bk k0 hk0)]; exact hT.n3
  refine xb_set 4 (t := tLs (hs.map tHd)) (x_ty (x_callI L.heads ⟨(k0, bs', tVls nm, tTu (ds.map tNm)), by show k0.length ≤ 1000; omega⟩ (xa_1 (x_ty (x_var 2) (by rw [ebs]; rfl))) trivial) (by rw [h0])) ?_
  have hsok : HsOk hs nm := ⟨hT.n1, hT.n3, hT.col, by omega, nl.2⟩
  have nd := tabs_nd hT
  refine xb_set 5 (t := tShX hs nm) (x_callI L.some ⟨q, hs, nm, hsok⟩ (xa_4 (x_var 1) (x_var 4) (x_ixL (n := 1) (t := tVls nm) (x_var 2) x_int rfl) x_int) hM) (xb_open 5 rfl fun z hz => ?_)
  obtain ⟨one, n1⟩ := z
  have k1 : ShOk hs nm one n1 := hz
  refine xb_set 6 (t := tShX hs nm) (x_callI L.more ⟨q, hs, nm, one, n1, hsok, nv1, k1⟩ (xa_4 (x_var 1) (x_var 5) (x_var 4) (x_ixL (n := 1) (t := tVls nm) (x_var 2) x_int rfl)) hM) (xb_open 6 rfl fun z hz => ?_)
  obtain ⟨oth, n2⟩ := z
  have k2 : ShOk hs nm oth n2 := hz
  have md : Made q bs nm nr hs one oth n1 n2 k0 := ⟨nd, fun h hh => (hT.col h hh).2, k1, k2, hnl, fun v hv => (hnr.2 v).mpr hv, h0, by rw [ebs]; rfl⟩
  refine xb_set 7 (t := tEx (PoolOk 8) fun vs => tLs (vs.map tVl)) (x_sub (x_catLL (q := fun z : Unit × List Vl => True ∧ PoolOk 3 z.2) (f := fun z => nm.map tVl ++ z.2.map tVl) (r := fun _ : Unit => True) (h := fun _ => [tIn 0, tIn 1]) (x_catLL (q := fun _ : Unit => True) (f := fun _ => nm.map tVl) (r := PoolOk 3) (h := fun ys => ys.map tVl) (x_sub (x_lstT (x_ixL (n := 1) (t := tVls nm) (x_var 2) x_int rfl) b.list) fun S v h => ⟨(), trivial, h⟩) (x_callI L.pool ⟨(q, 3), (by decide : 1 ≤ 3), (by decide : 3 ≤ 1000)⟩ (xa_2 (x_var 1) x_int) hM.st) fun _ k _ hk => by have := hk.2; rw [List.length_map, List.length_map]; omega) (x_sub (x_lst (ts := [tIn 0, tIn 1]) (xa_2 x_int x_int)) fun S v h => ⟨(), trivial, h⟩) fun z _ hz _ => by have := hz.2.2; rw [List.length_append, List.length_map, List.length_map]; show _ + 2 ≤ _; omega) ?_) (xb_open 7 rfl fun pool hpool => ?_)
  · rintro S v ⟨⟨⟨_, ys⟩, _⟩, ⟨⟨_, hy⟩, _⟩, h⟩
    have hy2 : ys.length ≤ 3 := hy.2
    refine ⟨nm ++ ys ++ [v0, v1], ⟨?_, ?_⟩, ?_⟩
    · rw [List.length_append]; show 1 ≤ _ + 2; omega
    · rw [List.length_append, List.length_append]; show _ + 2 ≤ 8; omega
    · have h : (tLs ((nm.map tVl ++ ys.map tVl) ++ [tIn 0, tIn 1])).is S v := h
      show (tLs ((nm ++ ys ++ [v0, v1]).map tVl)).is S v
      rw [List.map_append, List.map_append]
      exact h
  obtain ⟨pl1, pl2⟩ := hpool
  have bq : BqOk hs pool 4 := ⟨Nat.le_trans hT.n3 (by decide), fun h hh => Nat.le_trans (hT.col h hh).2 (by decide), pl1, by omega, by decide⟩
  have b2 : bs.length ≤ 2 := hB.n2
  refine xb_set 8 (t := tEx (fun Bs : List Book => Bs.length ≤ 100 ∧ ∀ k ∈ Bs, BOk hs k) tBks) (x_sub (x_catEE (q := BksIn hs 4 pool) (f := fun k => bs.map tBk ++ k.map tBk) (r := BksIn hs 4 pool) (h := fun k => k.map tBk) (x_catTE (ts := bs.map tBk) (q := BksIn hs 4 pool) (f := fun k => k.map tBk) (x_ixL (n := 0) (t := tBks bs) (x_var 2) x_int rfl) (x_callI L.books ⟨q, hs, pool, 4, bq⟩ (xa_4 (x_var 1) (x_var 4) (x_var 7) x_int) hM) fun k hk => by have := hk.n2; rw [List.length_map, List.length_map]; omega) (x_callI L.books ⟨q, hs, pool, 4, bq⟩ (xa_4 (x_var 1) (x_var 4) (x_var 7) x_int) hM) fun j k hj hk => by have := hj.n2; have := hk.n2; rw [List.length_append, List.length_map, List.length_map, List.length_map]; omega) ?_) (xb_open 8 rfl fun Bs hBs => ?_)
  · rintro S v ⟨⟨j, k⟩, ⟨hj, hk⟩, h⟩
    have hj2 : j.length ≤ 2 := hj.n2
    have hk2 : k.length ≤ 2 := hk.n2
    refine ⟨bs ++ j ++ k, ⟨by rw [List.length_append, List.length_append]; omega, fun x hx => ?_⟩, ?_⟩
    · rcases List.mem_append.mp hx with hx | hx
      · rcases List.mem_append.mp hx with hx | hx
        · exact bkIn_ok (hB.bk x hx) (by decide)
        · exact bkIn_ok (hj.bk x hx) (by decide)
      · exact bkIn_ok (hk.bk x hx) (by decide)
    · have h : (tTu ((bs.map tBk ++ j.map tBk) ++ k.map tBk)).is S v := h
      show (tTu ((bs ++ j ++ k).map tBk)).is S v
      rw [List.map_append, List.map_append]
      exact h
  obtain ⟨Bl, Bk⟩ := hBs
  refine xb_set 8 (t := tEx (fun Cs : List Book => ∀ k ∈ Cs, BOk hs k) tBks) (x_sub (x_sub (x_catT (ts := Bs.map tBk) (x_var 8) (x_tup (ts := [tEx (Frz k0 (vdOf nr one n1) one.2) tBk, tEx (Frz k0 (vdOf nr oth n2) oth.2) tBk]) (xa_2 (x_callI L.frozen ⟨(bs, nr, one, n1, k0), md.ice1⟩ (xa_2 (x_var 3) (x_var 5)) trivial) (x_callI L.frozen ⟨(bs, nr, oth, n2, k0), md.ice2⟩ (xa_2 (x_var 3) (x_var 6)) trivial))) (by rw [List.length_map]; show Bs.length + 2 ≤ _; omega)) (two_last (S := S_0))) ?_) (xb_open 8 rfl fun Cs hCs => ?_)
  · rintro S v ⟨⟨i1, i2⟩, ⟨hi1, hi2⟩, h⟩
    refine ⟨Bs ++ [i1, i2], fun x hx => ?_, ?_⟩
    · rcases List.mem_append.mp hx with hx | hx
      · exact Bk x hx
      · rcases List.mem_cons.mp hx with rfl | hx
        · exact ice_book k1 nd h0 hi1
        · rw [List.mem_singleton.mp hx]
          exact ice_book k2 nd h0 hi2
    · have h : (tTu (Bs.map tBk ++ [tBk i1, tBk i2])).is S v := h
      show (tTu ((Bs ++ [i1, i2]).map tBk)).is S v
      rw [List.map_append]
      exact h
  exact law_end L hM md hsok hCs
theorem ok_law {C P f : Addr} {fd : FuncData} (L : LawF g C P) (FD : FunD g.K "law" "law" (defArgs (top 78)) (defBody (top 78)) (defScope (top 78)) [] [] f fd) : FnOk g.P g.w g.K g.mg g.base CX0 13 f fd ["_law_script"] (spLaw g.K P) := by
  refine FD.ok (N := lawN) ⟨rfl, rfl, rfl, by decide +kernel, rfl, by decide +kernel, by decide +kernel⟩ (fun vs H Q E h => ?_) (fun cdv A outer s H vs Q E hr h => ?_)
  · obtain ⟨a, ns, rfl, _⟩ := h
    rfl
  · obtain ⟨a, ns, rfl, hq, hP, hQ⟩ := h
    obtain ⟨S, eS⟩ : ∃ S : Hp, S = fun b => match H b with | some (.tbl _) => none | o => o := ⟨_, rfl⟩
    have ex : Ex S H := fun b o e => by
      rw [eS] at e
      have e : (match H b with | some (.tbl _) => none | o => o) = some o := e
      cases q : H b with
      | none => rw [q] at e; cases e
      | some u => rw [q] at e; cases u <;> first | exact e | cases e
    have sP : S P = none := by rw [eS]; show (match H P with | some (.tbl _) => none | o => o) = none; rw [hP]
    have sq : SqL g.K S a (ns.map V.int) := by
      rcases hq with (hq | ⟨o, hq⟩) | hq
      · exact .inl (.inl (by rw [eS]; show (match H a with | some (.tbl _) => none | o => o) = _; rw [hq]))
      · exact .inl (.inr ⟨o, by rw [eS]; show (match H a with | some (.tbl _) => none | o => o) = _; rw [hq]⟩)
      · exact .inr hq
    have body : XB g lawL (Ct { tbM P lamQ with dom := fun b => H b ≠ none } S S H (([tScr g.K ns]).map Slot.ty ++ List.replicate 14 .unk)) (defBody (top 78)) lawD := by
      refine xb_own 1 (xf_lst (ts := [tScr g.K ns, tIn 0, tIn 0, tIn 59]) (xa_4 (x_var 0) x_int x_int x_int)) fun _ p _ => ?_
      refine xb_pre (pre := fun σ H' => ∃ z : Addr × Hp × Hp, Ct { stM2 p z.1 P lamQ with dom := fun a => z.2.2 a ≠ none } z.2.1 z.2.1 z.2.2 (.ty (tScr g.K ns) :: .ty (tSta g.K p z.1 ns) :: stG 13) σ H') (xb_ex fun z => ?_) fun σ H' ct => law_switch ct
      obtain ⟨sc, S1, H1⟩ := z
      exact law_body (q := ⟨p, sc, ns⟩) L ⟨isSt2, isTb2⟩
    have bX := body (cxOf CX0 g.P g.w g.K g.mg g.base lawN "law" (defScope (top 78)) f cdv A outer s H E).nox ⟨rfl, rfl, rfl, rfl, rfl, rfl, rfl, hr, rfl, by decide +kernel, fun _ _ => rfl, rfl, rfl⟩
    refine ⟨_, bX.nox, ⟨S, Ex.rfl', ⟨Gr.refl ex, fun a => Iff.rfl⟩, ⟨sP, LamX.TabS.nil hP⟩, env_start (ts := [tScr g.K ns]) (.cons ⟨a, rfl, sq⟩ .nil) (show 1 ≤ 15 by decide)⟩, ⟨fun σ H' z => z.elim, fun v H' z => ?_, fun _ _ z => z, fun _ _ z => z⟩⟩
    have z : v = .bl true := z
    rw [z]
    exact hQ H'
end Z
end

section
/-! T46: the defs, one after another; the end. -/
namespace Z
open PySem PySem.Spec L2 PySem.W ZL
structure AllDf (g : Gc) : Prop where
  f14 : Df g "is_whole" (top 14)
  f15 : Df g "is_word" (top 15)
  f17 : Df g "is_value" (top 17)
  f18 : Df g "is_row" (top 18)
  f19 : Df g "value_key" (top 19)
  f20 : Df g "row_key" (top 20)
  f21 : Df g "row_less" (top 21)
  f22 : Df g "risen" (top 22)
  f23 : Df g "values_risen" (top 23)
  f24 : Df g "are_risen" (top 24)
  f26 : Df g "are_rows" (top 26)
  f27 : Df g "is_table" (top 27)
  f28 : Df g "values_in" (top 28)
  f29 : Df g "is_book" (top 29)
  f30 : Df g "heads" (top 30)
  f31 : Df g "are_books" (top 31)
  f33 : Df g "named_of" (top 33)
  f34 : Df g "deeds_of" (top 34)
  f39 : Df g "is_mark" (top 39)
  f40 : Df g "marks_in" (top 40)
  f41 : Df g "numbers_in" (top 41)
  f42 : Df g "readings_on" (top 42)
  f43 : Df g "read_on" (top 43)
  f44 : Df g "value_read" (top 44)
  f45 : Df g "rows_read" (top 45)
  f47 : Df g "put_by" (top 47)
  f48 : Df g "right_likeness" (top 48)
  f49 : Df g "led_on" (top 49)
  f50 : Df g "led_lines" (top 50)
  f51 : Df g "likeness" (top 51)
  f53 : Df g "fresh_numbers" (top 53)
  f54 : Df g "values_for" (top 54)
  f55 : Df g "frozen" (top 55)
  f56 : Df g "frozen_row" (top 56)
  f58 : Df g "_law_take" (top 58)
  f59 : Df g "_law_word" (top 59)
  f60 : Df g "_law_pool" (top 60)
  f62 : Df g "_law_tables" (top 62)
  f63 : Df g "_law_books" (top 63)
  f64 : Df g "_law_data" (top 64)
  f65 : Df g "_law_field" (top 65)
  f66 : Df g "_law_mark_key" (top 66)
  f67 : Df g "_law_line_key" (top 67)
  f68 : Df g "_law_numbers" (top 68)
  f70 : Df g "_law_put_right" (top 70)
  f71 : Df g "_law_some_sheet" (top 71)
  f72 : Df g "_law_heads" (top 72)
  f74 : Df g "_law_by" (top 74)
  f76 : Df g "_law_more_sheet" (top 76)
  f77 : Df g "_law_things" (top 77)
theorem lawF_of {g : Gc} {C c P : Addr} (b : Gb g) (d : DdC g) (fc : FdC g C) (fd : FdD g C) (LC : LamC g c P) (Fs : DfC g "_law_sorted" (top 61) c) (A : AllDf g) : LawF g C P := by
  have whole := ok_is_whole b A.f14
  have word := ok_is_word b A.f15
  have value := ok_is_value b A.f17 whole word
  have isrow := ok_is_row b A.f18 value
  have vkey := ok_value_key b A.f19
  have rkey := ok_row_key b A.f20 vkey
  have rless := ok_row_less b A.f21 rkey
  have ris := ok_risen b A.f22 rkey
  have vris := ok_values_risen b A.f23 vkey
  have aris := ok_are_risen b A.f24 rless
  have arows := ok_are_rows b A.f26 isrow aris
  have itab := ok_is_table b A.f27 word whole arows
  have vin := ok_values_in b A.f28 vris
  have ibook := ok_is_book b A.f29 itab vin
  have hds := ok_heads b A.f30
  have abooks := ok_are_books b A.f31 ibook hds
  have named := ok_named_of b A.f33 value vris
  have dds := ok_deeds_of b d A.f34
  have fld := ok_field fc fd abooks named dds
  have imark := ok_is_mark b A.f39 whole value
  have mks := ok_marks_in b A.f40
  have nums := ok_numbers_in b A.f41 mks
  have ron := ok_read_on b A.f43
  have rson := ok_readings_on b A.f42 ron
  have vrd := ok_value_read b A.f44
  have rrd := ok_rows_read b A.f45 rson vrd ris
  have pby := ok_put_by b A.f47
  have rgt := ok_right b A.f48 nums imark pby
  have led := ok_led_on b A.f49
  have lls := ok_led_lines b A.f50 led 5
  have lik := ok_likeness b A.f51 led lls nums
  have frs := ok_fresh fc b A.f53 mks nums
  have vfor := ok_values_for fc b A.f54 mks frs
  have frz := ok_frozen fc b A.f55 vfor ris
  have frw := ok_frozen_row fc b A.f56 vfor
  have take := ok_take b A.f58
  have lword := ok_lword b A.f59 take
  have pool := ok_pool b A.f60 take lword
  have srt := ok_law_sorted b LC Fs
  have tabs := ok_tables b A.f62 take
  have bks := ok_law_books b A.f63 take srt
  have data := ok_law_data b A.f64 take tabs pool bks
  have lfld := ok_law_field b A.f65 fld
  have mkey := ok_mark_key b A.f66
  have lkey := ok_line_key b A.f67 mkey
  have lnum := ok_law_numbers b A.f68
  have prt := ok_put_right b A.f70 lnum lkey
  have some := ok_some_sheet (P := P) b A.f71 take prt
  have lhds := ok_law_heads b A.f72
  have lby := ok_by b A.f74
  have more := ok_more_sheet (P := P) b A.f76 take prt lnum lby
  have thg := ok_things (P := P) b A.f77 take lnum
  exact ⟨b, take, data, lfld, lhds, some, more, pool, bks, frz, frw, lik, rrd, thg, rgt⟩
end Z
namespace FQ
open PySem PySem.Spec PyProof.Rows L2
section
variable {P : Program} {w : World} {K : PySem.W.Frag} {h base : Heap} {mg : Str → Option Value}
abbrev gG (P : Program) (w : World) (K : PySem.W.Frag) (mg : Str → Option Value) (base : Heap) : Z.Gc := ⟨P, w, K, mg, base⟩
theorem df_of (X : K.In h) (G : h.Ns mainGlobals mg) (c : He.SaysD fa fn K) {x : Str} {i : Nat} (j k : Nat) (h1 : fn[j]? = some (dd i x)) (h2 : fa[k]? = some (.glo x)) : Z.Df (gG P w K mg base) x (Z.top i) := by
  obtain ⟨fd, F⟩ := c.def_ j h1
  exact ⟨He.ga K x, fd, F, He.glo_ok X G (c.fact k h2)⟩
theorem gb_of (X : K.In h) (G : h.Ns mainGlobals mg) (c : He.SaysD fa fn K) : Z.Gb (gG P w K mg base) where
  len := He.free_ok X G (c.fact 52 rfl)
  tuple := He.free_ok X G (c.fact 53 rfl)
  list := He.free_ok X G (c.fact 54 rfl)
  all := He.free_ok X G (c.fact 55 rfl)
  zip := He.free_ok X G (c.fact 56 rfl)
  range := He.free_ok X G (c.fact 57 rfl)
  enumerate := He.free_ok X G (c.fact 58 rfl)
  isinstance := He.free_ok X G (c.fact 59 rfl)
  int := He.free_ok X G (c.fact 60 rfl)
  str := He.free_ok X G (c.fact 61 rfl)
  bool := He.free_ok X G (c.fact 62 rfl)
  sorted := He.free_ok X G (c.fact 63 rfl)
  set := He.free_ok X G (c.fact 64 rfl)
  dict := He.free_ok X G (c.fact 65 rfl)
  min := He.free_ok X G (c.fact 66 rfl)
  ANY := He.str_ok X G (c.fact 67 rfl)
  IS := He.str_ok X G (c.fact 68 rfl)
  LETTERS := He.str_ok X G (c.fact 69 rfl)
  GREATEST := He.int_ok X G (c.fact 70 rfl)
  WIDE := He.int_ok X G (c.fact 71 rfl)
  ROWS := He.int_ok X G (c.fact 72 rfl)
  TABLES := He.int_ok X G (c.fact 73 rfl)
  MANY := He.int_ok X G (c.fact 74 rfl)
  VALUES := He.int_ok X G (c.fact 75 rfl)
  NAMED := He.int_ok X G (c.fact 76 rfl)
  LONGEST := He.int_ok X G (c.fact 77 rfl)
theorem all_of (X : K.In h) (G : h.Ns mainGlobals mg) (c : He.SaysD fa fn K) : Z.AllDf (gG P w K mg base) where
  f14 := df_of X G c (i := 14) 0 0 rfl rfl
  f15 := df_of X G c (i := 15) 1 1 rfl rfl
  f17 := df_of X G c (i := 17) 2 2 rfl rfl
  f18 := df_of X G c (i := 18) 3 3 rfl rfl
  f19 := df_of X G c (i := 19) 4 4 rfl rfl
  f20 := df_of X G c (i := 20) 5 5 rfl rfl
  f21 := df_of X G c (i := 21) 6 6 rfl rfl
  f22 := df_of X G c (i := 22) 7 7 rfl rfl
  f23 := df_of X G c (i := 23) 8 8 rfl rfl
  f24 := df_of X G c (i := 24) 9 9 rfl rfl
  f26 := df_of X G c (i := 26) 10 10 rfl rfl
  f27 := df_of X G c (i := 27) 11 11 rfl rfl
  f28 := df_of X G c (i := 28) 12 12 rfl rfl
  f29 := df_of X G c (i := 29) 13 13 rfl rfl
  f30 := df_of X G c (i := 30) 14 14 rfl rfl
  f31 := df_of X G c (i := 31) 15 15 rfl rfl
  f33 := df_of X G c (i := 33) 16 16 rfl rfl
  f34 := df_of X G c (i := 34) 17 17 rfl rfl
  f39 := df_of X G c (i := 39) 18 18 rfl rfl
  f40 := df_of X G c (i := 40) 19 19 rfl rfl
  f41 := df_of X G c (i := 41) 20 20 rfl rfl
  f42 := df_of X G c (i := 42) 21 21 rfl rfl
  f43 := df_of X G c (i := 43) 22 22 rfl rfl
  f44 := df_of X G c (i := 44) 23 23 rfl rfl
  f45 := df_of X G c (i := 45) 24 24 rfl rfl
  f47 := df_of X G c (i := 47) 25 25 rfl rfl
  f48 := df_of X G c (i := 48) 26 26 rfl rfl
  f49 := df_of X G c (i := 49) 27 27 rfl rfl
  f50 := df_of X G c (i := 50) 28 28 rfl rfl
  f51 := df_of X G c (i := 51) 29 29 rfl rfl
  f53 := df_of X G c (i := 53) 30 30 rfl rfl
  f54 := df_of X G c (i := 54) 31 31 rfl rfl
  f55 := df_of X G c (i := 55) 32 32 rfl rfl
  f56 := df_of X G c (i := 56) 33 33 rfl rfl
  f58 := df_of X G c (i := 58) 34 34 rfl rfl
  f59 := df_of X G c (i := 59) 35 35 rfl rfl
  f60 := df_of X G c (i := 60) 36 36 rfl rfl
  f62 := df_of X G c (i := 62) 38 38 rfl rfl
  f63 := df_of X G c (i := 63) 39 39 rfl rfl
  f64 := df_of X G c (i := 64) 40 40 rfl rfl
  f65 := df_of X G c (i := 65) 41 41 rfl rfl
  f66 := df_of X G c (i := 66) 42 42 rfl rfl
  f67 := df_of X G c (i := 67) 43 43 rfl rfl
  f68 := df_of X G c (i := 68) 44 44 rfl rfl
  f70 := df_of X G c (i := 70) 45 45 rfl rfl
  f71 := df_of X G c (i := 71) 46 46 rfl rfl
  f72 := df_of X G c (i := 72) 47 47 rfl rfl
  f74 := df_of X G c (i := 74) 48 48 rfl rfl
  f76 := df_of X G c (i := 76) 49 49 rfl rfl
  f77 := df_of X G c (i := 77) 50 50 rfl rfl
theorem fdC_of (c : He.SaysD fa fn K) : Z.FdC (gG P w K mg base) (He.ga K "Field") := ⟨He.cls_ok (c.fact 80 rfl), He.noat_ok (c.fact 81 rfl), He.noat_ok (c.fact 82 rfl)⟩
theorem fdD_of (X : K.In h) (G : h.Ns mainGlobals mg) (c : He.SaysD fa fn K) : Z.FdD (gG P w K mg base) (He.ga K "Field") := by
  obtain ⟨fd, F⟩ := c.def_ 52 (d := di) rfl
  exact ⟨He.noat_ok (c.fact 83 rfl), He.glo_ok X G (c.fact 78 rfl), _, List.cons_ne_nil _ _, He.ma K (He.ga K "Field") "__init__", fd, F, He.mkr_ok (c.fact 84 rfl)⟩
theorem ddC_of (X : K.In h) (G : h.Ns mainGlobals mg) (c : He.SaysD fa fn K) (m : ex K = true) : Z.DdC (gG P w K mg base) := by
  have q := He.tupB_ok (K := K) (x := "DEEDS") (vs := deeds) m fun _ => none
  rcases q with (q | ⟨_, q⟩) | ⟨o, its, n, h1, h2, h3, h4, h5⟩
  · cases q
  · cases q
  · exact ⟨_, o, its, n, He.glo_ok X G (c.fact 79 rfl), h1, h2, h3, h4, h5⟩
theorem dfC_of (X : K.In h) (G : h.Ns mainGlobals mg) (c : He.SaysD fa fn K) : Z.DfC (gG P w K mg base) "_law_sorted" (Z.top 61) (He.cT K ("_law_sorted", none)).1 := by
  obtain ⟨fd, F⟩ := c.def_ 37 (d := dd 61 "_law_sorted") rfl
  obtain ⟨oc, od, dV, kV, doc, pm, an, cdv, ct, osl, e, lk, hcd, k1, k2⟩ := id F.ex
  obtain ⟨c0, rfl⟩ := He.codeIn_ref hcd
  subst e
  have e0 : (He.cT K ("_law_sorted", none)).1 = c0 := He.codeOf_eq (p := ("_law_sorted", none)) lk rfl
  rw [e0]
  exact ⟨_, oc, od, dV, kV, doc, pm, an, ct, osl, lk, hcd, F, He.glo_ok X G (c.fact 37 rfl)⟩
theorem facts {f : Addr} (X : K.In h) (G : h.Ns mainGlobals mg) (hfa : mg ("law" : Str) = some (.ref f)) (c : He.SaysD fa fn K) (m : ex K = true) :
    ∃ fd : FuncData, (∀ (s : Shared) (v : Value), BindsTo s fd ⟨[v], []⟩ [("_law_script", v)]) ∧ ∀ base : Heap, LamX.TabB base mg (He.cT K ("_law_sorted", none)).1 (He.cT K ("_law_sorted", none)).2 → FnOk P w K mg base CX0 13 f fd ["_law_script"] (Z.spLaw K (He.cT K ("_law_sorted", none)).2) := by
  obtain ⟨fd, F⟩ := c.def_ 51 (d := dd 78 "law") rfl
  have e := hfa.symm.trans (He.glo_ok X G (c.fact 51 (f := .glo "law") rfl))
  cases e
  have b := FunD.bindsA (ps := ["_law_script"]) F fun _ _ _ _ _ _ us hl => match us, hl with | [_], _ => rfl
  refine ⟨fd, fun s v => b s [v] rfl, fun base tb => ?_⟩
  exact Z.ok_law (g := gG P w K mg base) (C := He.ga K "Field") (Z.lawF_of (gb_of X G c) (ddC_of X G c m) (fdC_of c) (fdD_of X G c) ⟨tb⟩ (dfC_of X G c) (all_of X G c)) F
end
end FQ
open PySem PySem.W PySem.Calls PyProof.Rows
set_option maxHeartbeats 0 in
theorem PySem.Challenge.cw_findquestion_k59_whole_likenesses_carry_holds : PySem.Challenge.rw_findquestion_k59_whole_likenesses_carry.Holds := by
  w_on; o_law
  refine HandSHeadRun.head_any (r := OpenLaw.row PySem.Challenge.rw_findquestion_k59_whole_likenesses_carry) (q := view (OpenLaw.row PySem.Challenge.rw_findquestion_k59_whole_likenesses_carry).prog [78]) (H := FQ.hk) (ob := FQ.ob) (M := 3000) (loose := FQ.names) (d := HandSHeadRun.topDef (OpenLaw.row PySem.Challenge.rw_findquestion_k59_whole_likenesses_carry).prog 78) (kwd := []) FQ.ob_eq
    (by kernel_rfl) (fun s => by kernel_rfl) FQ.run (by kernel_rfl) (by kernel_rfl) (by kernel_rfl) (by rfl) (by first | assumption | decide +kernel) (by decide +kernel) ⟨rfl, rfl, rfl, rfl, rfl, by decide +kernel⟩ ?hw ?hc
  case hw => w_witness2
  case hc =>
    refine LamX.walk_ofTsE (l := PySem.Challenge.rw_findquestion_k59_whole_likenesses_carry) (n := 63) (k := 13) (x := "_law_script") (CX := fun _ => L2.CX0) rfl (by decide) (by kernel_rfl) ⟨rfl, by decide, by decide⟩ ?F (fun _ _ _ _ _ z => z)
    intro w mg fa h Y G hmg0
    obtain ⟨K, KX, c⟩ := Y
    have hmg : mg ("law" : PySem.Str) = some (.ref fa) := by
      have e : (HandSHeadRun.topDef (OpenLaw.row PySem.Challenge.rw_findquestion_k59_whole_likenesses_carry).prog 78).name = ("law" : PySem.Str) := by kernel_rfl
      rw [← e]
      exact hmg0
    obtain ⟨fd, hb, hF⟩ := FQ.facts (P := (PySem.Challenge.rw_findquestion_k59_whole_likenesses_carry).prog) (w := w) KX G hmg c.t.d c.more
    have hm : (("_law_sorted", none) : He.Defn) ∈ FQ.tf := List.mem_singleton.mpr rfl
    refine ⟨K, KX, fd, [He.cT K ("_law_sorted", none)], Z.spLaw K (He.cT K ("_law_sorted", none)).2, fun p hp => ?_, fun p hp => ?_, fun p hp => ?_, hb, fun H a ns hl _ hH hS => ⟨a, ns, rfl, hS, hH _ (List.mem_singleton.mpr rfl), fun _ => rfl⟩, fun base _ _ htb => hF base (htb _ (List.mem_singleton.mpr rfl))⟩
    · rw [List.mem_singleton.mp hp]; exact c.empty _ hm
    · rw [List.mem_singleton.mp hp]; exact c.out _ hm
    · rw [List.mem_singleton.mp hp]; exact codeHd_of_K KX (c.hd _ hm)
end
