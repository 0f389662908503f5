import PyProof.Rows.All
import Wide.All
import OpenK.AllK
import Wide.FinOn
import HandS.ForMost
import HandS.ForExc
import HandS.Wide
import HandS.IsInst
import HandS.Walk
import HandS.Defaults
import HandS.Conv
import HandS.Style
import HandS.Zip
import HandS.Strs
import HandS.SortInts
import HandS.Rev
import HandS.DictTup
import HandS.SortOrd
import HandS.More
import HandS.RevRange
import PySem.Challenge.RW_flowtokens_k18_what_can_be_wet
set_option Elab.async false
set_option linter.all false
set_option maxRecDepth 100000
set_option maxHeartbeats 4000000
/-! Fl: trees of data with owned lists, and how the heap bears them. -/
namespace Fl
open PySem PySem.Spec PyProof.Rows L2

/-- a value as a tree; lst true: a list of which nobody else knows -/
inductive D where
  | non | bl (b : Bool) | int (i : Int) | str (x : Str)
  | tup (ds : List D) | lst (o : Bool) (ds : List D) | frz (ds : List D) | dct (o : Bool) (ks : List Key) (ds : List D)
  | exo (c : Str) (ds : List D) | dead

def scD : V → Option D
  | .non => some .non
  | .bl b => some (.bl b)
  | .int i => some (.int i)
  | .str x => some (.str x)
  | _ => none

/-- values vs bear trees ds: shared things stand in Hs, owned ones in H at the places A -/
inductive RL (K : PySem.W.Frag) (Hs H : Hp) : List V → List D → List Addr → Prop
  | nil : RL K Hs H [] [] []
  | sc {v d vs ds B} : scD v = some d → RL K Hs H vs ds B → RL K Hs H (v :: vs) (d :: ds) B
  | tup {a xs es A vs ds B} : SqT K Hs a xs → RL K Hs H xs es A → RL K Hs H vs ds B → RL K Hs H (.ref a :: vs) (.tup es :: ds) (A ++ B)
  | frz {a xs es vs ds B} : SqL K Hs a xs → RL K Hs H xs es [] → RL K Hs H vs ds B → RL K Hs H (.ref a :: vs) (.frz es :: ds) B
  | lstS {a xs es vs ds B} : Hs a = some (.lst xs) → RL K Hs H xs es [] → RL K Hs H vs ds B → RL K Hs H (.ref a :: vs) (.lst false es :: ds) B
  | lstO {a xs es A vs ds B} : H a = some (.lst xs) → RL K Hs H xs es A → RL K Hs H vs ds B → RL K Hs H (.ref a :: vs) (.lst true es :: ds) (a :: (A ++ B))
  | dct {a kvs ks es A vs ds B} : H a = some (.dK kvs) → kvs.map Prod.fst = ks → RL K Hs H (kvs.map Prod.snd) es A → RL K Hs H vs ds B → RL K Hs H (.ref a :: vs) (.dct true ks es :: ds) (a :: (A ++ B))
  | dctS {a kvs ks es vs ds B} : Hs a = some (.dK kvs) → kvs.map Prod.fst = ks → RL K Hs H (kvs.map Prod.snd) es [] → RL K Hs H vs ds B → RL K Hs H (.ref a :: vs) (.dct false ks es :: ds) B
  | dead {v vs ds B} : RL K Hs H vs ds B → RL K Hs H (v :: vs) (.dead :: ds) B

inductive ER (K : PySem.W.Frag) (Hs H : Hp) : L2.St → List D → List Addr → Prop
  | nil : ER K Hs H [] [] []
  | dead {x σ env A} : ER K Hs H σ env A → ER K Hs H (x :: σ) (.dead :: env) A
  | cons {v d B σ env A} : RL K Hs H [v] [d] B → ER K Hs H σ env A → ER K Hs H (some v :: σ) (d :: env) (B ++ A)

structure Ok (Hs H : Hp) (A : List Addr) : Prop where
  sub : ∀ a o, Hs a = some o → H a = some o
  nd : ∀ a, A.count a ≤ 1
  off : ∀ a, 0 < A.count a → Hs a = none
  has : ∀ a, 0 < A.count a → H a ≠ none

/-- from a state to a later one: what is shared grows, nothing but the owned is touched -/
structure Go (Hs H : Hp) (A : List Addr) (Hs' H' : Hp) (A' : List Addr) : Prop where
  hs : ∀ a o, Hs a = some o → Hs' a = some o
  keep : ∀ a o, H a = some o → A.count a = 0 → H' a = some o
  back : ∀ a o, Hs' a = some o → Hs a = none → 0 < A.count a ∨ H a = none
  own : ∀ a, 0 < A'.count a → 0 < A.count a ∨ H a = none

section
variable {K : PySem.W.Frag} {Hs H Hs' H' Hs'' H'' : Hp} {A A' A'' B C F : List Addr} {vs : List V} {ds : List D} {v : V} {d : D}

theorem Go.refl : Go Hs H A Hs H A := ⟨fun _ _ h => h, fun _ _ h _ => h, fun a o h n => (by rw [n] at h; cases h), fun _ h => .inl h⟩
theorem none_or {H : Hp} (a : Addr) : H a = none ∨ ∃ o, H a = some o := by
  cases h : H a with
  | none => exact .inl rfl
  | some o => exact .inr ⟨o, rfl⟩
theorem Go.trans (x : Go Hs H A Hs' H' A') (y : Go Hs' H' A' Hs'' H'' A'') : Go Hs H A Hs'' H'' A'' := by
  have key : ∀ a, (0 < A'.count a ∨ H' a = none) → 0 < A.count a ∨ H a = none := fun a h => by
    rcases h with h | h
    · exact x.own a h
    · rcases none_or (H := H) a with q | ⟨o, q⟩
      · exact .inr q
      · by_cases c : A.count a = 0
        · rw [x.keep a o q c] at h; cases h
        · exact .inl (Nat.pos_of_ne_zero c)
  refine ⟨fun a o h => y.hs a o (x.hs a o h), fun a o h c => ?_, fun a o h n => ?_, fun a h => key a (y.own a h)⟩
  · refine y.keep a o (x.keep a o h c) ?_
    rcases Nat.eq_zero_or_pos (A'.count a) with q | q
    · exact q
    · rcases x.own a q with r | r
      · omega
      · rw [r] at h; cases h
  · rcases none_or (H := Hs') a with q | ⟨u, q⟩
    · exact key a (y.back a o h q)
    · exact x.back a u q n
/-- fewer owned behind -/
theorem Go.less (x : Go Hs H A Hs' H' A') (h : ∀ a, 0 < B.count a → 0 < A'.count a) : Go Hs H A Hs' H' B := ⟨x.hs, x.keep, x.back, fun a q => x.own a (h a q)⟩
theorem Go.more (x : Go Hs H A Hs' H' A') (h : ∀ a, 0 < A.count a → 0 < B.count a) : Go Hs H B Hs' H' A' :=
  ⟨x.hs, fun a o q c => x.keep a o q (by have := h a; omega), fun a o q n => (x.back a o q n).imp (h a) id, fun a q => (x.own a q).imp (h a) id⟩
/-- with a frame on both sides -/
theorem Go.frame (x : Go Hs H A Hs' H' A') : Go Hs H (F ++ A) Hs' H' (F ++ A') := by
  refine ⟨x.hs, fun a o q c => x.keep a o q (by rw [List.count_append] at c; omega), fun a o q n => (x.back a o q n).imp (fun r => by rw [List.count_append]; omega) id, fun a q => ?_⟩
  rw [List.count_append] at q
  by_cases c : 0 < F.count a
  · exact .inl (by rw [List.count_append]; omega)
  · exact (x.own a (by omega)).imp (fun r => by rw [List.count_append]; omega) id

theorem ext_rd {a : Addr} {u : HO} (e : ∀ a o, Hs a = some o → Hs' a = some o) (h : Rd Hs a u) : Rd Hs' a u := by
  rcases h with h | ⟨o, h⟩
  · exact .inl (e a _ h)
  · exact .inr ⟨o, e a _ h⟩
theorem ext_l {a : Addr} {xs : List V} (e : ∀ a o, Hs a = some o → Hs' a = some o) (h : SqL K Hs a xs) : SqL K Hs' a xs := h.imp (ext_rd e) id
theorem ext_t {a : Addr} {xs : List V} (e : ∀ a o, Hs a = some o → Hs' a = some o) (h : SqT K Hs a xs) : SqT K Hs' a xs := h.imp (ext_rd e) id
theorem RL.mono (r : RL K Hs H vs ds A) (e : ∀ a o, Hs a = some o → Hs' a = some o) (k : ∀ a o, 0 < A.count a → H a = some o → H' a = some o) : RL K Hs' H' vs ds A := by
  induction r with
  | nil => exact .nil
  | sc h _ ih => exact .sc h (ih k)
  | tup h _ _ i1 i2 => exact .tup (ext_t e h) (i1 fun a o c => k a o (by rw [List.count_append]; omega)) (i2 fun a o c => k a o (by rw [List.count_append]; omega))
  | frz h _ _ i1 i2 => exact .frz (ext_l e h) (i1 fun a o c => by simp at c) (i2 k)
  | lstS h _ _ i1 i2 => exact .lstS (e _ _ h) (i1 fun a o c => by simp at c) (i2 k)
  | lstO h _ _ i1 i2 =>
    exact .lstO (k _ _ (by simp) h) (i1 fun a o c => k a o (by rw [List.count_cons, List.count_append]; omega)) (i2 fun a o c => k a o (by rw [List.count_cons, List.count_append]; omega))
  | dctS h hk _ _ i1 i2 => exact .dctS (e _ _ h) hk (i1 fun a o c => by simp at c) (i2 k)
  | dct h hk _ _ i1 i2 =>
    exact .dct (k _ _ (by simp) h) hk (i1 fun a o c => k a o (by rw [List.count_cons, List.count_append]; omega)) (i2 fun a o c => k a o (by rw [List.count_cons, List.count_append]; omega))
  | dead _ ih => exact .dead (ih k)
theorem RL.length (r : RL K Hs H vs ds A) : vs.length = ds.length := by
  induction r <;> simp_all
theorem RL.app {vs2 : List V} {ds2 : List D} (r : RL K Hs H vs ds A) (q : RL K Hs H vs2 ds2 B) : RL K Hs H (vs ++ vs2) (ds ++ ds2) (A ++ B) := by
  induction r with
  | nil => exact q
  | sc h _ ih => exact .sc h ih
  | tup h a _ _ i2 => simpa [List.append_assoc] using RL.tup h a i2
  | frz h a _ _ i2 => exact .frz h a i2
  | lstS h a _ _ i2 => exact .lstS h a i2
  | lstO h a _ _ i2 => simpa [List.append_assoc] using RL.lstO h a i2
  | dctS h hk a _ _ i2 => exact .dctS h hk a i2
  | dct h hk a _ _ i2 => simpa [List.append_assoc] using RL.dct h hk a i2
  | dead _ ih => exact .dead ih
theorem RL.un (r : RL K Hs H (v :: vs) (d :: ds) A) : ∃ B C, A = B ++ C ∧ RL K Hs H [v] [d] B ∧ RL K Hs H vs ds C := by
  cases r with
  | sc h r => exact ⟨[], _, rfl, .sc h .nil, r⟩
  | tup h a r => exact ⟨_, _, rfl, by simpa using RL.tup h a RL.nil, r⟩
  | frz h a r => exact ⟨[], _, rfl, .frz h a .nil, r⟩
  | lstS h a r => exact ⟨[], _, rfl, .lstS h a .nil, r⟩
  | @lstO a xs es A vs ds B h q r => exact ⟨a :: A, B, by simp, by simpa using RL.lstO h q RL.nil, r⟩
  | dctS h hk a r => exact ⟨[], _, rfl, .dctS h hk a .nil, r⟩
  | @dct a kvs ks es A vs ds B h hk q r => exact ⟨a :: A, B, by simp, by simpa using RL.dct h hk q RL.nil, r⟩
  | dead r => exact ⟨[], _, rfl, .dead .nil, r⟩
theorem RL.cons (r : RL K Hs H [v] [d] A) (q : RL K Hs H vs ds B) : RL K Hs H (v :: vs) (d :: ds) (A ++ B) := r.app q
theorem RL.unapp : ∀ {vs : List V} {ds1 ds2 : List D} {A : List Addr}, RL K Hs H vs (ds1 ++ ds2) A → ∃ vs1 vs2 B C, vs = vs1 ++ vs2 ∧ A = B ++ C ∧ RL K Hs H vs1 ds1 B ∧ RL K Hs H vs2 ds2 C
  | vs, [], ds2, A, r => ⟨[], vs, [], A, rfl, rfl, .nil, r⟩
  | [], d :: ds1, ds2, A, r => by cases r
  | v :: vs, d :: ds1, ds2, A, r => by
    obtain ⟨B, C, rfl, r1, r2⟩ := RL.un r
    obtain ⟨vs1, vs2, B', C', rfl, rfl, q1, q2⟩ := RL.unapp r2
    exact ⟨v :: vs1, vs2, B ++ B', C', rfl, by simp, r1.cons q1, q2⟩
/-- an item of shared ones -/
theorem RL.at : ∀ {vs : List V} {ds : List D} {A : List Addr} {i : Nat} {d : D}, RL K Hs H vs ds A → ds[i]? = some d → ∃ v B, vs[i]? = some v ∧ RL K Hs H [v] [d] B ∧ ∀ a, B.count a ≤ A.count a
  | _, [], _, i, d, _, h => by simp at h
  | [], _ :: _, _, i, d, r, _ => by cases r
  | v :: vs, e :: ds, A, 0, d, r, h => by
    simp at h; subst h
    obtain ⟨B, C, rfl, r1, r2⟩ := RL.un r
    exact ⟨v, B, rfl, r1, fun a => by rw [List.count_append]; omega⟩
  | v :: vs, e :: ds, A, i + 1, d, r, h => by
    obtain ⟨B, C, rfl, r1, r2⟩ := RL.un r
    obtain ⟨u, B', e1, e2, e3⟩ := RL.at (i := i) (d := d) r2 (by simpa using h)
    exact ⟨u, B', by simpa using e1, e2, fun a => by have := e3 a; rw [List.count_append]; omega⟩
theorem nil_of_count {A : List Addr} (h : ∀ a, A.count a ≤ ([] : List Addr).count a) : A = [] := by
  cases A with
  | nil => rfl
  | cons a r => have := h a; simp at this
theorem RL.at0 {i : Nat} (r : RL K Hs H vs ds []) (h : ds[i]? = some d) : ∃ v, vs[i]? = some v ∧ RL K Hs H [v] [d] [] := by
  obtain ⟨v, B, e, q, c⟩ := r.at h
  rw [nil_of_count c] at q
  exact ⟨v, e, q⟩
/-- shared things, in a later heap -/
theorem RL.go0 (r : RL K Hs H vs ds []) (g : Go Hs H A Hs' H' A') : RL K Hs' H' vs ds [] := r.mono g.hs fun a o c => by simp at c
/-- owned things that are not of the moved ones -/
theorem RL.go (r : RL K Hs H vs ds B) (g : Go Hs H A Hs' H' A') (n : ∀ a, 0 < B.count a → A.count a = 0) : RL K Hs' H' vs ds B := r.mono g.hs fun a o c h => g.keep a o h (n a c)
theorem RL.has (r : RL K Hs H vs ds A) : ∀ a, 0 < A.count a → H a ≠ none := by
  induction r with
  | nil => intro a c; simp at c
  | sc _ _ ih => exact ih
  | @tup b xs es A vs ds B _ _ _ i1 i2 =>
    intro a c
    rw [List.count_append] at c
    by_cases q : 0 < A.count a
    · exact i1 a q
    · exact i2 a (by omega)
  | frz _ _ _ _ i2 => exact i2
  | lstS _ _ _ _ i2 => exact i2
  | dctS _ _ _ _ _ i2 => exact i2
  | @lstO b xs es A vs ds B h _ _ i1 i2 =>
    intro a c
    rw [List.count_cons, List.count_append] at c
    by_cases e : b = a
    · subst e; rw [h]; simp
    · have : (b == a) = false := by simpa using e
      rw [this] at c
      by_cases q : 0 < A.count a
      · exact i1 a q
      · exact i2 a (by simp at c; omega)
  | @dct b kvs ks es A vs ds B h hk _ _ i1 i2 =>
    intro a c
    rw [List.count_cons, List.count_append] at c
    by_cases e : b = a
    · subst e; rw [h]; simp
    · have : (b == a) = false := by simpa using e
      rw [this] at c
      by_cases q : 0 < A.count a
      · exact i1 a q
      · exact i2 a (by simp at c; omega)
  | dead _ ih => exact ih

theorem RL.dead0 (r : RL K Hs H [v] [.dead] A) : A = [] := by
  cases r with
  | sc h r => cases v <;> simp [scD] at h
  | dead r => cases r; rfl
theorem ER.mono {σ : L2.St} {env : List D} (r : ER K Hs H σ env A) (e : ∀ a o, Hs a = some o → Hs' a = some o) (k : ∀ a o, 0 < A.count a → H a = some o → H' a = some o) : ER K Hs' H' σ env A := by
  induction r with
  | nil => exact .nil
  | dead _ ih => exact .dead (ih k)
  | cons h _ ih => exact .cons (h.mono e fun a o c => k a o (by rw [List.count_append]; omega)) (ih fun a o c => k a o (by rw [List.count_append]; omega))
theorem ER.length {σ : L2.St} {env : List D} (r : ER K Hs H σ env A) : σ.length = env.length := by
  induction r <;> simp_all
/-- the slot i: its value, what it owns, and the rest without it -/
theorem ER.at : ∀ {σ : L2.St} {env : List D} {A : List Addr} {i : Nat} {d : D}, ER K Hs H σ env A → env[i]? = some d → d ≠ .dead →
    ∃ v B A', σ[i]? = some (some v) ∧ RL K Hs H [v] [d] B ∧ ER K Hs H σ (env.set i .dead) A' ∧ ∀ a, A.count a = B.count a + A'.count a
  | _, [], _, i, d, _, h, _ => by simp at h
  | [], _ :: _, _, i, d, r, _, _ => by cases r
  | x :: σ, e :: env, A, 0, d, r, h, n => by
    simp at h; subst h
    cases r with
    | dead r => exact absurd rfl n
    | cons q r => exact ⟨_, _, _, rfl, q, .dead r, fun a => by rw [List.count_append]⟩
  | x :: σ, e :: env, A, i + 1, d, r, h, n => by
    cases r with
    | dead r =>
      obtain ⟨v, B, A', e1, e2, e3, e4⟩ := ER.at (i := i) (d := d) r (by simpa using h) n
      exact ⟨v, B, A', by simpa using e1, e2, .dead e3, e4⟩
    | cons q r =>
      obtain ⟨v, B, A', e1, e2, e3, e4⟩ := ER.at (i := i) (d := d) r (by simpa using h) n
      exact ⟨v, B, _, by simpa using e1, e2, .cons q e3, fun a => by have := e4 a; rw [List.count_append, List.count_append]; omega⟩
/-- a slot is filled -/
theorem ER.put : ∀ {σ : L2.St} {env : List D} {A : List Addr} {i : Nat}, ER K Hs H σ env A → RL K Hs H [v] [d] B → i < env.length →
    ∃ A', ER K Hs H (σ.set i (some v)) (env.set i d) A' ∧ ∀ a, A'.count a ≤ B.count a + A.count a
  | _, [], _, i, _, _, h => by simp at h
  | [], _ :: _, _, i, r, _, _ => by cases r
  | x :: σ, e :: env, A, 0, r, q, _ => by
    cases r with
    | dead r => exact ⟨_, .cons q r, fun a => by rw [List.count_append]; omega⟩
    | cons q' r => exact ⟨_, .cons q r, fun a => by rw [List.count_append, List.count_append]; omega⟩
  | x :: σ, e :: env, A, i + 1, r, q, h => by
    cases r with
    | dead r =>
      obtain ⟨A', e1, e2⟩ := ER.put (i := i) r q (by simpa using h)
      exact ⟨A', .dead e1, e2⟩
    | cons q' r =>
      obtain ⟨A', e1, e2⟩ := ER.put (i := i) r q (by simpa using h)
      exact ⟨_, .cons q' e1, fun a => by have := e2 a; rw [List.count_append, List.count_append]; omega⟩
/-- a slot is given back what it holds by its own value -/
theorem ER.give : ∀ {σ : L2.St} {env : List D} {A : List Addr} {i : Nat}, ER K Hs H σ (env.set i .dead) A → RL K Hs H [v] [d] B → σ[i]? = some (some v) → i < env.length →
    ∃ A', ER K Hs H σ (env.set i d) A' ∧ ∀ a, A'.count a = B.count a + A.count a
  | _, [], _, i, _, _, _, h => by simp at h
  | [], _ :: _, _, i, r, _, h, _ => by simp at h
  | x :: σ, e :: env, A, 0, r, q, h, _ => by
    simp at h; subst h
    cases r with
    | dead r => exact ⟨_, .cons q r, fun a => by rw [List.count_append]⟩
    | cons q' r => rw [q'.dead0]; exact ⟨_, .cons q r, fun a => by rw [List.count_append]; simp⟩
  | x :: σ, e :: env, A, i + 1, r, q, h, hl => by
    rw [List.set_cons_succ] at r
    cases r with
    | dead r =>
      obtain ⟨A', e1, e2⟩ := ER.give (i := i) r q (by simpa using h) (by simpa using hl)
      exact ⟨A', .dead e1, e2⟩
    | cons q' r =>
      obtain ⟨A', e1, e2⟩ := ER.give (i := i) r q (by simpa using h) (by simpa using hl)
      exact ⟨_, .cons q' e1, fun a => by have := e2 a; rw [List.count_append, List.count_append]; omega⟩
end
end Fl

/-! Fl: expressions as functions of an environment of trees, and that the reading of a rule follows them. -/
namespace Fl
open PySem PySem.Spec PyProof.Rows L2

abbrev Env := List D
inductive Res (α : Type) where
  | no | ok (a : α) | ex (x : D) (env : Env)
def Res.bind {α β : Type} (r : Res α) (f : α → Res β) : Res β := match r with
  | .no => .no
  | .ok a => f a
  | .ex x e => .ex x e
@[simp] theorem Res.bind_ok {α β : Type} (a : α) (f : α → Res β) : (Res.ok a).bind f = f a := rfl
@[simp] theorem Res.bind_no {α β : Type} (f : α → Res β) : (Res.no : Res α).bind f = .no := rfl
@[simp] theorem Res.bind_ex {α β : Type} (x : D) (e : Env) (f : α → Res β) : (Res.ex x e : Res α).bind f = .ex x e := rfl
abbrev Exp := Env → Res (D × Env)
abbrev Tst := Env → Res (Bool × Env)
abbrev Arg := Env → Res (List D × Env)

/-- what is wished of an exception, and how it lies -/
structure Wh where
  on : Prop
  XR : Hp → Hp → D → Value → Option Addr → List Addr → Prop
  W : WX

def ExO (K : PySem.W.Frag) (W : Wh) (σ : L2.St) (F : List Addr) (Hs H : Hp) (A : List Addr) (x : D) (env' : Env) : Prop :=
  W.on ∧ ∀ c od Hs' H' B A', W.XR Hs' H' x c od B → ER K Hs' H' σ env' A' → Ok Hs' H' (B ++ (F ++ A')) → Go Hs H A Hs' H' (B ++ A') → W.W c od σ H'
def OutE (K : PySem.W.Frag) (W : Wh) (σ : L2.St) (F : List Addr) (Hs H : Hp) (A : List Addr) (vsOf : V → List V) (P : Prop) : Prop := P

/-- an expression's reading follows m -/
def PostE (K : PySem.W.Frag) (W : Wh) (t : TE) (σ : L2.St) (F : List Addr) (Hs H : Hp) (A : List Addr) : Res (D × Env) → Prop
  | .no => True
  | .ok p => ∀ Q : VK, (∀ v Hs' H' B A', RL K Hs' H' [v] [p.1] B → ER K Hs' H' σ p.2 A' → Ok Hs' H' (B ++ (F ++ A')) → Go Hs H A Hs' H' (B ++ A') → Q v H') → t σ H Q
  | .ex x env' => ExO K W σ F Hs H A x env' → ∀ Q : VK, t σ H Q
def PostB (K : PySem.W.Frag) (W : Wh) (t : TT) (σ : L2.St) (F : List Addr) (Hs H : Hp) (A : List Addr) : Res (Bool × Env) → Prop
  | .no => True
  | .ok p => ∀ Q : Bool → Hp → Prop, (∀ Hs' H' A', ER K Hs' H' σ p.2 A' → Ok Hs' H' (F ++ A') → Go Hs H A Hs' H' A' → Q p.1 H') → t σ H Q
  | .ex x env' => ExO K W σ F Hs H A x env' → ∀ Q : Bool → Hp → Prop, t σ H Q
def PostA (K : PySem.W.Frag) (W : Wh) (t : TA) (σ : L2.St) (F : List Addr) (Hs H : Hp) (A : List Addr) : Res (List D × Env) → Prop
  | .no => True
  | .ok p => ∀ Q : List V → Hp → Prop, (∀ vs Hs' H' B A', RL K Hs' H' vs p.1 B → ER K Hs' H' σ p.2 A' → Ok Hs' H' (B ++ (F ++ A')) → Go Hs H A Hs' H' (B ++ A') → Q vs H') → t σ H Q
  | .ex x env' => ExO K W σ F Hs H A x env' → ∀ Q : List V → Hp → Prop, t σ H Q
def EvI (K : PySem.W.Frag) (W : Wh) (t : TE) (m : Exp) : Prop := ∀ σ env F Hs H A, ER K Hs H σ env A → Ok Hs H (F ++ A) → PostE K W t σ F Hs H A (m env)
def EvB (K : PySem.W.Frag) (W : Wh) (t : TT) (m : Tst) : Prop := ∀ σ env F Hs H A, ER K Hs H σ env A → Ok Hs H (F ++ A) → PostB K W t σ F Hs H A (m env)
def EvA (K : PySem.W.Frag) (W : Wh) (t : TA) (m : Arg) : Prop := ∀ σ env F Hs H A, ER K Hs H σ env A → Ok Hs H (F ++ A) → PostA K W t σ F Hs H A (m env)

section
variable {K : PySem.W.Frag} {W : Wh} {σ : L2.St} {env env' : Env} {F A A' B C : List Addr} {Hs H Hs' H' Hs'' H'' : Hp} {t ta tb : TE} {m ma mb : Exp} {d d1 d2 : D} {v : V}

theorem Ok.less (o : Ok Hs H A) (h : ∀ a, B.count a ≤ A.count a) : Ok Hs H B :=
  ⟨o.sub, fun a => Nat.le_trans (h a) (o.nd a), fun a c => o.off a (Nat.lt_of_lt_of_le c (h a)), fun a c => o.has a (Nat.lt_of_lt_of_le c (h a))⟩
theorem Ok.nil (o : Ok Hs H A) : Ok Hs H [] := o.less fun a => by simp
/-- how EvI is used -/
theorem EvI.ok (e : EvI K W t m) (r : ER K Hs H σ env A) (o : Ok Hs H (F ++ A)) (h : m env = .ok (d, env')) {Q : VK}
    (k : ∀ v Hs' H' B A', RL K Hs' H' [v] [d] B → ER K Hs' H' σ env' A' → Ok Hs' H' (B ++ (F ++ A')) → Go Hs H A Hs' H' (B ++ A') → Q v H') : t σ H Q := by
  have := e σ env F Hs H A r o
  rw [h] at this
  exact this Q k
theorem EvI.ex (e : EvI K W t m) (r : ER K Hs H σ env A) (o : Ok Hs H (F ++ A)) {x : D} (h : m env = .ex x env') (k : ExO K W σ F Hs H A x env') (Q : VK) : t σ H Q := by
  have := e σ env F Hs H A r o
  rw [h] at this
  exact this k Q
theorem EvB.ok {t : TT} {m : Tst} {b : Bool} (e : EvB K W t m) (r : ER K Hs H σ env A) (o : Ok Hs H (F ++ A)) (h : m env = .ok (b, env')) {Q : Bool → Hp → Prop}
    (k : ∀ Hs' H' A', ER K Hs' H' σ env' A' → Ok Hs' H' (F ++ A') → Go Hs H A Hs' H' A' → Q b H') : t σ H Q := by
  have := e σ env F Hs H A r o
  rw [h] at this
  exact this Q k
theorem EvB.ex {t : TT} {m : Tst} (e : EvB K W t m) (r : ER K Hs H σ env A) (o : Ok Hs H (F ++ A)) {x : D} (h : m env = .ex x env') (k : ExO K W σ F Hs H A x env') (Q : Bool → Hp → Prop) : t σ H Q := by
  have := e σ env F Hs H A r o
  rw [h] at this
  exact this k Q
theorem EvA.ok {t : TA} {m : Arg} {ds : List D} (e : EvA K W t m) (r : ER K Hs H σ env A) (o : Ok Hs H (F ++ A)) (h : m env = .ok (ds, env')) {Q : List V → Hp → Prop}
    (k : ∀ vs Hs' H' B A', RL K Hs' H' vs ds B → ER K Hs' H' σ env' A' → Ok Hs' H' (B ++ (F ++ A')) → Go Hs H A Hs' H' (B ++ A') → Q vs H') : t σ H Q := by
  have := e σ env F Hs H A r o
  rw [h] at this
  exact this Q k
theorem EvA.ex {t : TA} {m : Arg} (e : EvA K W t m) (r : ER K Hs H σ env A) (o : Ok Hs H (F ++ A)) {x : D} (h : m env = .ex x env') (k : ExO K W σ F Hs H A x env') (Q : List V → Hp → Prop) : t σ H Q := by
  have := e σ env F Hs H A r o
  rw [h] at this
  exact this k Q

/-- an exception of a later part is one of the whole -/
theorem ExO.after {x : D} (k : ExO K W σ F Hs H A x env') (g : Go Hs H A Hs' H' (B ++ A')) : ExO K W σ (B ++ F) Hs' H' A' x env' := ⟨k.1, fun c od Hs2 H2 B2 A2 xr r o g2 =>
  k.2 c od Hs2 H2 B2 A2 xr r (o.less fun a => by simp only [List.count_append]; omega) (g.trans ((g2.frame (F := B)).less fun a c => by simp only [List.count_append] at c ⊢; omega))⟩
theorem ExO.after0 {x : D} (k : ExO K W σ F Hs H A x env') (g : Go Hs H A Hs' H' A') : ExO K W σ F Hs' H' A' x env' := ⟨k.1, fun c od Hs2 H2 B2 A2 xr r o g2 =>
  k.2 c od Hs2 H2 B2 A2 xr r o (g.trans g2)⟩

/-! ### sharing -/
mutual
def own : D → Bool
  | .tup ds => ownL ds
  | .lst true _ => true
  | .lst false _ => false
  | .dct o _ _ => o
  | _ => false
def ownL : List D → Bool
  | [] => false
  | d :: ds => own d || ownL ds
end
mutual
def sh : D → D
  | .tup ds => .tup (shL ds)
  | .lst _ ds => .lst false (shL ds)
  | .frz ds => .frz (shL ds)
  | .dct _ ks ds => .dct false ks (shL ds)
  | d => d
def shL : List D → List D
  | [] => []
  | d :: ds => sh d :: shL ds
end
theorem RL.own0 {vs : List V} {ds : List D} (r : RL K Hs H vs ds A) : ownL ds = false → A = [] := by
  induction r with
  | nil => intro _; rfl
  | sc h _ ih => intro e; simp [ownL] at e; exact ih e.2
  | tup h _ _ i1 i2 =>
    intro e; simp [ownL, own] at e
    rw [i1 e.1, i2 e.2]; rfl
  | frz h _ _ i1 i2 => intro e; simp [ownL, own] at e; exact i2 e
  | lstS h _ _ i1 i2 => intro e; simp [ownL, own] at e; exact i2 e
  | lstO h _ _ i1 i2 => intro e; simp [ownL, own] at e
  | dctS h hk _ _ i1 i2 => intro e; simp [ownL, own] at e; exact i2 e
  | dct h hk _ _ i1 i2 => intro e; simp [ownL, own] at e
  | dead _ ih => intro e; simp [ownL, own] at e; exact ih e
theorem RL.share {vs : List V} {ds : List D} (r : RL K Hs H vs ds A) : (∀ a o, Hs a = some o → Hs' a = some o) → (∀ a, 0 < A.count a → Hs' a = H a) → RL K Hs' H vs (shL ds) [] := by
  induction r with
  | nil => intro _ _; exact .nil
  | @sc v d vs ds B h _ ih =>
    intro e k
    have : sh d = d := by cases v <;> simp [scD] at h <;> subst h <;> rfl
    show RL K Hs' H _ (sh d :: shL ds) []
    rw [this]
    exact .sc h (ih e k)
  | tup h _ _ i1 i2 =>
    intro e k
    exact RL.tup (A := []) (ext_t e h) (i1 e fun a c => k a (by rw [List.count_append]; omega)) (i2 e fun a c => k a (by rw [List.count_append]; omega))
  | frz h _ _ i1 i2 =>
    intro e k
    exact .frz (ext_l e h) (i1 e fun a c => by simp at c) (i2 e k)
  | lstS h _ _ i1 i2 =>
    intro e k
    exact .lstS (e _ _ h) (i1 e fun a c => by simp at c) (i2 e k)
  | @lstO a xs es A vs ds B h _ _ i1 i2 =>
    intro e k
    refine .lstS ?_ (i1 e fun a c => k a (by rw [List.count_cons, List.count_append]; omega)) (i2 e fun a c => k a (by rw [List.count_cons, List.count_append]; omega))
    rw [k a (by simp), h]
  | dctS h hk _ _ i1 i2 =>
    intro e k
    exact .dctS (e _ _ h) hk (i1 e fun a c => by simp at c) (i2 e k)
  | dct h hk _ _ i1 i2 =>
    intro e k
    refine .dctS ?_ hk (i1 e fun a c => k a (by rw [List.count_cons, List.count_append]; omega)) (i2 e fun a c => k a (by rw [List.count_cons, List.count_append]; omega))
    rw [k _ (by simp), h]
  | dead _ ih => intro e k; exact .dead (ih e k)
/-- the places B are shared from now on -/
def pool (Hs H : Hp) (B : List Addr) : Hp := fun a => if 0 < B.count a then H a else Hs a
theorem pool_in {a : Addr} (h : 0 < B.count a) : pool Hs H B a = H a := if_pos h
theorem pool_out {a : Addr} (h : B.count a = 0) : pool Hs H B a = Hs a := if_neg (by omega)
theorem pool_ext (o : Ok Hs H (B ++ C)) : ∀ a u, Hs a = some u → pool Hs H B a = some u := fun a u h => by
  by_cases c : 0 < B.count a
  · rw [o.off a (by rw [List.count_append]; omega)] at h; cases h
  · rw [pool_out (by omega)]; exact h
theorem Ok.pool (o : Ok Hs H (B ++ C)) : Ok (pool Hs H B) H C := by
  refine ⟨fun a u h => ?_, fun a => ?_, fun a c => ?_, fun a c => o.has a (by rw [List.count_append]; omega)⟩
  · by_cases c : 0 < B.count a
    · rw [pool_in c] at h; exact h
    · rw [pool_out (by omega)] at h; exact o.sub a u h
  · have := o.nd a; rw [List.count_append] at this; omega
  · have := o.nd a
    rw [List.count_append] at this
    rw [pool_out (by omega)]
    exact o.off a (by rw [List.count_append]; omega)
theorem Go.pool (g : Go Hs H A Hs' H' (B ++ A')) (o : Ok Hs' H' (B ++ C)) : Go Hs H A (pool Hs' H' B) H' A' := by
  refine ⟨fun a u h => pool_ext o a u (g.hs a u h), g.keep, fun a u h n => ?_, fun a c => g.own a (by rw [List.count_append]; omega)⟩
  by_cases c : 0 < B.count a
  · exact g.own a (by rw [List.count_append]; omega)
  · rw [pool_out (by omega)] at h
    exact g.back a u h n
theorem RL.share1 (r : RL K Hs H [v] [d] B) (o : Ok Hs H (B ++ C)) : RL K (pool Hs H B) H [v] [sh d] [] := r.share (pool_ext o) fun a c => pool_in c
theorem RL.shareL {vs : List V} {ds : List D} (r : RL K Hs H vs ds B) (o : Ok Hs H (B ++ C)) : RL K (pool Hs H B) H vs (shL ds) [] := r.share (pool_ext o) fun a c => pool_in c
theorem ER.pool (r : ER K Hs H σ env A) (o : Ok Hs H (B ++ C)) : ER K (pool Hs H B) H σ env A := r.mono (pool_ext o) fun a u _ h => h

/-! ### names and constants -/
def eC (d : D) : Exp := fun env => .ok (d, env)
def isDead : D → Bool
  | .dead => true
  | _ => false
theorem not_dead {d : D} (h : isDead d = false) : d ≠ .dead := fun e => by subst e; simp [isDead] at h
def eV (i : Nat) : Exp := fun env => match env[i]? with
  | some d => if isDead d then .no else if own d then .ok (sh d, env.set i (sh d)) else .ok (d, env)
  | none => .no
/-- the last use of a name -/
def eM (i : Nat) : Exp := fun env => match env[i]? with
  | some d => if isDead d then .no else .ok (d, env.set i .dead)
  | none => .no

theorem ev_c {v : V} (h : scD v = some d) : EvI K W (tC v) (eC d) := fun σ env F Hs H A r o Q k => k v Hs H [] A (.sc h .nil) r (by simpa using o) (by simpa using Go.refl)
theorem ER.same (r : ER K Hs H σ env A) {i : Nat} (h : env[i]? = some d) : env.set i d = env := by
  apply List.ext_getElem?
  intro j
  by_cases e : i = j
  · subst e
    rw [List.getElem?_set_self (List.getElem?_eq_some_iff.mp h).1, h]
  · rw [List.getElem?_set_ne e]
theorem ev_v {i : Nat} : EvI K W (tVar i) (eV i) := by
  intro σ env F Hs H A r o
  unfold eV
  cases h : env[i]? with
  | none => trivial
  | some d =>
    dsimp only
    cases hd : isDead d with
    | true => trivial
    | false =>
    simp only [Bool.false_eq_true, if_false]
    obtain ⟨v, B, A1, e1, e2, e3, e4⟩ := r.at h (not_dead hd)
    have hlt := (List.getElem?_eq_some_iff.mp h).1
    cases hw : own d with
    | true =>
      intro Q k
      have o1 : Ok Hs H (B ++ (F ++ A1)) := o.less fun a => by have := e4 a; simp only [List.count_append]; omega
      have s1 := e2.share1 o1
      obtain ⟨A2, p1, p2⟩ := ER.give (e3.pool o1) s1 e1 hlt
      refine ⟨v, e1, k v _ _ [] A2 s1 p1 (o1.pool.less fun a => by have := p2 a; simp only [List.count_append, List.count_nil] at *; omega) ?_⟩
      have g : Go Hs H A Hs H (B ++ A1) := Go.refl.less fun a c => by have := e4 a; rw [List.count_append] at c; omega
      exact (g.pool o1).less fun a c => by have := p2 a; simp only [List.nil_append, List.count_nil] at *; omega
    | false =>
      intro Q k
      have : B = [] := e2.own0 (by simp [ownL, hw])
      subst this
      exact ⟨v, e1, k v _ _ [] A e2 r (by simpa using o) (by simpa using Go.refl)⟩
theorem ev_m {i : Nat} : EvI K W (tVar i) (eM i) := by
  intro σ env F Hs H A r o
  unfold eM
  cases h : env[i]? with
  | none => trivial
  | some d =>
    dsimp only
    cases hd : isDead d with
    | true => trivial
    | false =>
    simp only [Bool.false_eq_true, if_false]
    obtain ⟨v, B, A1, e1, e2, e3, e4⟩ := r.at h (not_dead hd)
    intro Q k
    exact ⟨v, e1, k v _ _ B A1 e2 e3 (o.less fun a => by have := e4 a; simp only [List.count_append]; omega) (Go.refl.less fun a c => by have := e4 a; rw [List.count_append] at c; omega)⟩

/-! ### two in a row -/
theorem EvI.two {env1 env2 : Env} (ea : EvI K W ta ma) (eb : EvI K W tb mb) (r : ER K Hs H σ env A) (o : Ok Hs H (F ++ A)) (h1 : ma env = .ok (d1, env1)) (h2 : mb env1 = .ok (d2, env2)) {R : V → V → Hp → Prop}
    (k : ∀ x y Hs' H' B1 B2 A', RL K Hs' H' [x] [d1] B1 → RL K Hs' H' [y] [d2] B2 → ER K Hs' H' σ env2 A' → Ok Hs' H' (B2 ++ ((B1 ++ F) ++ A')) → Go Hs H A Hs' H' (B2 ++ (B1 ++ A')) → R x y H') :
    ta σ H fun x H1 => tb σ H1 fun y H2 => R x y H2 := by
  refine ea.ok r o h1 fun x Hs1 H1 B1 A1 rx r1 o1 g1 => ?_
  refine eb.ok (F := B1 ++ F) r1 (o1.less fun a => by simp only [List.count_append]; omega) h2 fun y Hs2 H2 B2 A2 ry r2 o2 g2 => ?_
  refine k x y Hs2 H2 B1 B2 A2 (rx.go g2 fun a c => ?_) ry r2 o2 ?_
  · have := o1.nd a; simp only [List.count_append] at this; omega
  · exact g1.trans ((g2.frame (F := B1)).less fun a c => by simp only [List.count_append] at c ⊢; omega)
theorem EvI.two_ex1 {x : D} (ea : EvI K W ta ma) (r : ER K Hs H σ env A) (o : Ok Hs H (F ++ A)) (h1 : ma env = .ex x env') (k : ExO K W σ F Hs H A x env') {R : V → V → Hp → Prop} : ta σ H fun x H1 => tb σ H1 fun y H2 => R x y H2 := ea.ex r o h1 k _
theorem EvI.two_ex2 {x : D} {env1 : Env} (ea : EvI K W ta ma) (eb : EvI K W tb mb) (r : ER K Hs H σ env A) (o : Ok Hs H (F ++ A)) (h1 : ma env = .ok (d1, env1)) (h2 : mb env1 = .ex x env') (k : ExO K W σ F Hs H A x env') {R : V → V → Hp → Prop} :
    ta σ H fun x H1 => tb σ H1 fun y H2 => R x y H2 := by
  refine ea.ok r o h1 fun x Hs1 H1 B1 A1 rx r1 o1 g1 => ?_
  exact eb.ex (F := B1 ++ F) r1 (o1.less fun a => by simp only [List.count_append]; omega) h2 (k.after g1) _

/-- a two-place operation on values whose answer is a scalar: it lays nothing -/
def eBin (f : D → D → Option D) (ma mb : Exp) : Exp := fun env => (ma env).bind fun p => (mb p.2).bind fun q => match f p.1 q.1 with
  | some d => .ok (d, q.2)
  | none => .no
def OpS (K : PySem.W.Frag) (r : R2) (f : D → D → Option D) : Prop := ∀ Hs H x y d1 d2 B1 B2 d, (∀ a o, Hs a = some o → H a = some o) → RL K Hs H [x] [d1] B1 → RL K Hs H [y] [d2] B2 → f d1 d2 = some d → ∃ v, scD v = some d ∧ ∀ Q : VK, Q v H → r x y H Q
theorem ev_bin {r : R2} {f : D → D → Option D} (hr : OpS K r f) (ea : EvI K W ta ma) (eb : EvI K W tb mb) : EvI K W (tOp r ta tb) (eBin f ma mb) := by
  intro σ env F Hs H A rr o
  unfold eBin
  cases h1 : ma env with
  | no => trivial
  | ex x e => exact fun k Q => ea.ex rr o h1 k _
  | ok p =>
    obtain ⟨d1, env1⟩ := p
    simp only [Res.bind_ok]
    cases h2 : mb env1 with
    | no => trivial
    | ex x e => exact fun k Q => EvI.two_ex2 ea eb rr o h1 h2 k
    | ok q =>
      obtain ⟨d2, env2⟩ := q
      simp only [Res.bind_ok]
      cases h3 : f d1 d2 with
      | none => trivial
      | some d =>
        intro Q k
        refine EvI.two ea eb rr o h1 h2 fun x y Hs2 H2 B1 B2 A2 rx ry r2 o2 g2 => ?_
        obtain ⟨v, hv, q⟩ := hr Hs2 H2 x y d1 d2 B1 B2 d o2.sub rx ry h3
        exact q Q (k v Hs2 H2 [] A2 (.sc hv .nil) r2 (o2.less fun a => by simp only [List.count_append, List.count_nil]; omega) (g2.less fun a c => by simp only [List.count_append, List.count_nil] at c ⊢; omega))
def eUn (f : D → Option D) (ma : Exp) : Exp := fun env => (ma env).bind fun p => match f p.1 with
  | some d => .ok (d, p.2)
  | none => .no
def UnS (K : PySem.W.Frag) (r : V → Hp → VK → Prop) (f : D → Option D) : Prop := ∀ Hs H x d1 B1 d, (∀ a o, Hs a = some o → H a = some o) → RL K Hs H [x] [d1] B1 → f d1 = some d → ∃ v, scD v = some d ∧ ∀ Q : VK, Q v H → r x H Q
theorem ev_un {r : V → Hp → VK → Prop} {f : D → Option D} (hr : UnS K r f) (ea : EvI K W ta ma) : EvI K W (tUn r ta) (eUn f ma) := by
  intro σ env F Hs H A rr o
  unfold eUn
  cases h1 : ma env with
  | no => trivial
  | ex x e => exact fun k Q => ea.ex rr o h1 k _
  | ok p =>
    obtain ⟨d1, env1⟩ := p
    simp only [Res.bind_ok]
    cases h3 : f d1 with
    | none => trivial
    | some d =>
      intro Q k
      refine ea.ok rr o h1 fun x Hs2 H2 B1 A2 rx r2 o2 g2 => ?_
      obtain ⟨v, hv, q⟩ := hr Hs2 H2 x d1 B1 d o2.sub rx h3
      exact q Q (k v Hs2 H2 [] A2 (.sc hv .nil) r2 (o2.less fun a => by simp only [List.count_append, List.count_nil]; omega) (g2.less fun a c => by simp only [List.count_append, List.count_nil] at c ⊢; omega))

/-! ### scalar operations -/
theorem RL.int {x : V} {i : Int} (r : RL K Hs H [x] [.int i] B) : x = .int i := by
  cases r with
  | sc h _ => cases x <;> simp [scD] at h; rw [h]
theorem RL.bl {x : V} {i : Bool} (r : RL K Hs H [x] [.bl i] B) : x = .bl i := by
  cases r with
  | sc h _ => cases x <;> simp [scD] at h; rw [h]
theorem RL.strv {x : V} {i : Str} (r : RL K Hs H [x] [.str i] B) : x = .str i := by
  cases r with
  | sc h _ => cases x <;> simp [scD] at h; rw [h]
theorem RL.non {x : V} (r : RL K Hs H [x] [.non] B) : x = .non := by
  cases r with
  | sc h _ => cases x <;> simp [scD] at h; rfl
def iI (f : Int → Int → Option D) : D → D → Option D
  | .int i, .int j => f i j
  | _, _ => none
theorem ii_inv {f : Int → Int → Option D} {d1 d2 d : D} (h : iI f d1 d2 = some d) : ∃ i j, d1 = .int i ∧ d2 = .int j ∧ f i j = some d := by
  cases d1 <;> cases d2 <;> simp [iI] at h
  exact ⟨_, _, rfl, rfl, h⟩
def fAdd := iI fun i j => some (.int (i + j))
def fSub := iI fun i j => some (.int (i - j))
def fMul := iI fun i j => if i.natAbs.log2 + j.natAbs.log2 < 1000000 then some (.int (i * j)) else none
def CDivG (_ j : Int) : Prop := j ≠ 0 ∧ j.natAbs.log2 < 9000
theorem op_fdivG {X : Cx} : OpR X (binaryOp .FloorDiv) (rI CDivG fun i j => .int (i.fdiv j)) := opI fun i j _ _ _ _ _ hc q => floordiv_int hc.1 q (.inl (PyProof.noPylong_of_log2 hc.2))
def fDiv := iI fun i j => if j ≠ 0 ∧ j.natAbs.log2 < 9000 then some (.int (i.fdiv j)) else none
def fMod := iI fun i j => if j ≠ 0 then some (.int (i.fmod j)) else none
def fPow := iI fun i j => if 0 ≤ j ∧ j ≤ 1000000 ∧ i.natAbs < 2 ^ 64 then some (.int (i ^ j.toNat)) else none
def fLt := iI fun i j => some (.bl (decide (i < j)))
def fLe := iI fun i j => some (.bl (decide (i ≤ j)))
def fGt := iI fun i j => some (.bl (decide (j < i)))
def fGe := iI fun i j => some (.bl (decide (j ≤ i)))
theorem ops_I0 {g : Int → Int → V} {f : Int → Int → D} (h : ∀ i j, scD (g i j) = some (f i j)) : OpS K (rI0 g) (iI fun i j => some (f i j)) := by
  intro Hs H x y d1 d2 B1 B2 d _ rx ry e
  obtain ⟨i, j, rfl, rfl, e⟩ := ii_inv e
  have e' : f i j = d := Option.some.inj e
  subst e'
  exact ⟨g i j, h i j, fun Q q => ⟨i, j, rx.int, ry.int, q⟩⟩
theorem ops_I {C : Int → Int → Prop} [∀ i j, Decidable (C i j)] {g : Int → Int → V} {f : Int → Int → D} (h : ∀ i j, scD (g i j) = some (f i j)) : OpS K (rI C g) (iI fun i j => if C i j then some (f i j) else none) := by
  intro Hs H x y d1 d2 B1 B2 d _ rx ry e
  obtain ⟨i, j, rfl, rfl, e⟩ := ii_inv e
  replace e : (if C i j then some (f i j) else none) = some d := e
  by_cases c : C i j
  · rw [if_pos c] at e
    have e' : f i j = d := Option.some.inj e
    subst e'
    exact ⟨g i j, h i j, fun Q q => ⟨i, j, rx.int, ry.int, c, q⟩⟩
  · rw [if_neg c] at e; cases e
theorem os_add : OpS K (rI0 fun i j => .int (i + j)) fAdd := ops_I0 fun _ _ => rfl
theorem os_sub : OpS K (rI0 fun i j => .int (i - j)) fSub := ops_I0 fun _ _ => rfl
instance (i j : Int) : Decidable (CMulW i j) := inferInstanceAs (Decidable (_ < _))
instance (i j : Int) : Decidable (CDivW i j) := inferInstanceAs (Decidable (_ ∧ _))
instance (i j : Int) : Decidable (CDivN i j) := inferInstanceAs (Decidable (_ ∧ _))
instance (i j : Int) : Decidable (CPow i j) := inferInstanceAs (Decidable (_ ∧ _ ∧ _))
theorem os_mul : OpS K (rI CMulW fun i j => .int (i * j)) fMul := ops_I fun _ _ => rfl
instance (i j : Int) : Decidable (CDivG i j) := inferInstanceAs (Decidable (_ ∧ _))
theorem os_div : OpS K (rI CDivG fun i j => .int (i.fdiv j)) fDiv := ops_I fun _ _ => rfl
theorem os_mod : OpS K (rI (fun _ j => j ≠ 0) fun i j => .int (i.fmod j)) fMod := ops_I fun _ _ => rfl
theorem os_pow : OpS K (rI CPow fun i j => .int (i ^ j.toNat)) fPow := ops_I fun _ _ => rfl
theorem os_lt : OpS K (rI0 fun i j => .bl (decide (i < j))) fLt := ops_I0 fun _ _ => rfl
theorem os_le : OpS K (rI0 fun i j => .bl (decide (i ≤ j))) fLe := ops_I0 fun _ _ => rfl
theorem os_gt : OpS K (rI0 fun i j => .bl (decide (j < i))) fGt := ops_I0 fun _ _ => rfl
theorem os_ge : OpS K (rI0 fun i j => .bl (decide (j ≤ i))) fGe := ops_I0 fun _ _ => rfl
end
end Fl

/-! Fl: arguments, displays, subscripts, calls, comparisons, tests. -/
namespace Fl
open PySem PySem.Spec PyProof.Rows L2
section
variable {K : PySem.W.Frag} {W : Wh} {σ : L2.St} {env env' : Env} {F A A' B C : List Addr} {Hs H Hs' H' Hs'' H'' : Hp} {t ta tb : TE} {m ma mb : Exp} {d d1 d2 : D} {v : V}

/-! ### arguments -/
def aN : Arg := fun env => .ok ([], env)
def aC (m : Exp) (ms : Arg) : Arg := fun env => (m env).bind fun p => (ms p.2).bind fun q => .ok (p.1 :: q.1, q.2)
theorem ea_nil : EvA K W tNil aN := fun σ env F Hs H A r o Q k => k [] Hs H [] A .nil r (by simpa using o) (by simpa using Go.refl)
theorem ea_cons {tr : TA} {ms : Arg} (e : EvI K W t m) (es : EvA K W tr ms) : EvA K W (tCons t tr) (aC m ms) := by
  intro σ env F Hs H A r o
  unfold aC
  cases h1 : m env with
  | no => trivial
  | ex x e' => exact fun k Q => e.ex r o h1 k _
  | ok p =>
    obtain ⟨d1, env1⟩ := p
    simp only [Res.bind_ok]
    cases h2 : ms env1 with
    | no => trivial
    | ex x e' =>
      intro k Q
      refine e.ok r o h1 fun x Hs1 H1 B1 A1 rx r1 o1 g1 => ?_
      exact es.ex (F := B1 ++ F) r1 (o1.less fun a => by simp only [List.count_append]; omega) h2 (k.after g1) _
    | ok q =>
      obtain ⟨ds, env2⟩ := q
      intro Q k
      refine e.ok r o h1 fun x Hs1 H1 B1 A1 rx r1 o1 g1 => ?_
      refine es.ok (F := B1 ++ F) r1 (o1.less fun a => by simp only [List.count_append]; omega) h2 fun vs Hs2 H2 B2 A2 rs r2 o2 g2 => ?_
      refine k (x :: vs) Hs2 H2 (B1 ++ B2) A2 ((rx.go g2 fun a c => ?_).cons rs) r2 (o2.less fun a => by simp only [List.count_append]; omega) ?_
      · have := o1.nd a; simp only [List.count_append] at this; omega
      · exact g1.trans ((g2.frame (F := B1)).less fun a c => by simp only [List.count_append] at c ⊢; omega)

/-! ### new objects -/
theorem upd_old {p a : Addr} {u o : HO} (n : H p = none) (h : H a = some o) : upd H p u a = some o := by rw [upd_ne (ne_of_none h n)]; exact h
theorem Ok.newS (o : Ok Hs H A) {p : Addr} (n : H p = none) (u : HO) : Ok (upd Hs p u) (upd H p u) A := by
  have np : ∀ a, 0 < A.count a → a ≠ p := fun a c e => o.has a c (e ▸ n)
  refine ⟨fun a w h => ?_, o.nd, fun a c => by rw [upd_ne (np a c)]; exact o.off a c, fun a c => by rw [upd_ne (np a c)]; exact o.has a c⟩
  by_cases e : a = p
  · subst e; rw [upd_same] at h ⊢; exact h
  · rw [upd_ne e] at h ⊢; exact o.sub a w h
theorem Ok.free (o : Ok Hs H A) {p : Addr} (n : H p = none) : Hs p = none := by
  rcases none_or (H := Hs) p with q | ⟨w, q⟩
  · exact q
  · rw [o.sub p w q] at n; cases n
theorem Go.newS (o : Ok Hs H C) {p : Addr} (n : H p = none) (u : HO) : Go Hs H A (upd Hs p u) (upd H p u) A := by
  refine ⟨fun a w h => upd_old (o.free n) h, fun a w h _ => upd_old n h, fun a w h k => ?_, fun a c => .inl c⟩
  by_cases e : a = p
  · subst e; exact .inr n
  · rw [upd_ne e, k] at h; cases h
theorem Ok.newO (o : Ok Hs H A) {p : Addr} (n : H p = none) (u : HO) : Ok Hs (upd H p u) (p :: A) := by
  have np : ∀ a, 0 < A.count a → a ≠ p := fun a c e => o.has a c (e ▸ n)
  have zp : A.count p = 0 := by
    rcases Nat.eq_zero_or_pos (A.count p) with q | q
    · exact q
    · exact absurd rfl (np p q)
  have cc : ∀ a, (p :: A).count a = A.count a + (if p = a then 1 else 0) := fun a => by rw [List.count_cons]; simp
  refine ⟨fun a w h => upd_old n (o.sub a w h), fun a => ?_, fun a c => ?_, fun a c => ?_⟩
  · rw [cc]
    by_cases e : p = a
    · subst e; rw [if_pos rfl]; omega
    · rw [if_neg e]; have := o.nd a; omega
  · rw [cc] at c
    by_cases e : p = a
    · subst e; exact o.free n
    · rw [if_neg e] at c; exact o.off a (by omega)
  · by_cases e : p = a
    · subst e; rw [upd_same]; simp
    · rw [cc, if_neg e] at c
      rw [upd_ne (Ne.symm e)]; exact o.has a (by omega)
theorem Go.newO {p : Addr} (n : H p = none) (u : HO) : Go Hs H A Hs (upd H p u) (p :: A) := by
  refine ⟨fun a w h => h, fun a w h _ => upd_old n h, fun a w h k => (by rw [k] at h; cases h), fun a c => ?_⟩
  by_cases e : p = a
  · subst e; exact .inr n
  · rw [List.count_cons, show (p == a) = false by simpa using e] at c
    exact .inl (by simpa using c)
theorem RL.newS {vs : List V} {ds : List D} (r : RL K Hs H vs ds B) (o : Ok Hs H C) {p : Addr} (n : H p = none) (u : HO) : RL K (upd Hs p u) (upd H p u) vs ds B :=
  r.mono (fun a w h => upd_old (o.free n) h) fun a w _ h => upd_old n h
theorem RL.newO {vs : List V} {ds : List D} (r : RL K Hs H vs ds B) {p : Addr} (n : H p = none) (u : HO) : RL K Hs (upd H p u) vs ds B := r.mono (fun a w h => h) fun a w _ h => upd_old n h
theorem ER.newS (r : ER K Hs H σ env B) (o : Ok Hs H C) {p : Addr} (n : H p = none) (u : HO) : ER K (upd Hs p u) (upd H p u) σ env B :=
  r.mono (fun a w h => upd_old (o.free n) h) fun a w _ h => upd_old n h
theorem ER.newO (r : ER K Hs H σ env B) {p : Addr} (n : H p = none) (u : HO) : ER K Hs (upd H p u) σ env B := r.mono (fun a w h => h) fun a w _ h => upd_old n h
theorem sz1000 {n : Nat} (h : n ≤ 100000) : n ≤ sizeLine := Nat.le_trans h (by decide)

def eTup (ms : Arg) : Exp := fun env => (ms env).bind fun p => if p.1.length ≤ 100000 then .ok (.tup p.1, p.2) else .no
def eLst (ms : Arg) : Exp := fun env => (ms env).bind fun p => if p.1.length ≤ 100000 then .ok (.lst true p.1, p.2) else .no
theorem ev_tup {ta : TA} {ms : Arg} (e : EvA K W ta ms) : EvI K W (tTup ta) (eTup ms) := by
  intro σ env F Hs H A r o
  unfold eTup
  cases h1 : ms env with
  | no => trivial
  | ex x e' => exact fun k Q => e.ex r o h1 k _
  | ok p =>
    obtain ⟨ds, env1⟩ := p
    simp only [Res.bind_ok]
    by_cases hl : ds.length ≤ 100000
    · rw [if_pos hl]
      intro Q k
      refine e.ok r o h1 fun vs Hs1 H1 B1 A1 rs r1 o1 g1 => ⟨by rw [rs.length]; exact sz1000 hl, fun p n => ?_⟩
      refine k (.ref p) (upd Hs1 p (.tup vs)) (upd H1 p (.tup vs)) B1 A1 ?_ (r1.newS o1 n _) (o1.newS n _) (g1.trans (Go.newS o1 n _))
      simpa using RL.tup (.of upd_same) (rs.newS o1 n _) RL.nil
    · rw [if_neg hl]; trivial
theorem ev_lst {ta : TA} {ms : Arg} (e : EvA K W ta ms) : EvI K W (tLst ta) (eLst ms) := by
  intro σ env F Hs H A r o
  unfold eLst
  cases h1 : ms env with
  | no => trivial
  | ex x e' => exact fun k Q => e.ex r o h1 k _
  | ok p =>
    obtain ⟨ds, env1⟩ := p
    simp only [Res.bind_ok]
    by_cases hl : ds.length ≤ 100000
    · rw [if_pos hl]
      intro Q k
      refine e.ok r o h1 fun vs Hs1 H1 B1 A1 rs r1 o1 g1 => ⟨by rw [rs.length]; exact sz1000 hl, fun p n => ?_⟩
      refine k (.ref p) Hs1 (upd H1 p (.lst vs)) (p :: B1) A1 ?_ (r1.newO n _) (o1.newO n _) (g1.trans (Go.newO n _))
      simpa using RL.lstO upd_same (rs.newO n _) RL.nil
    · rw [if_neg hl]; trivial

/-! ### subscripts -/
/-- the items of a list or a tuple -/
def itD : D → Option (List D)
  | .tup ds => some ds
  | .lst _ ds => some ds
  | .frz ds => some ds
  | _ => none
def ixD (d : D) (i : Int) : Option D := (itD d).bind fun ds => atI ds i
theorem RL.items {x : V} {ds : List D} (r : RL K Hs H [x] [d] B) (s : ∀ a o, Hs a = some o → H a = some o) (h : itD d = some ds) :
    ∃ p xs B', x = .ref p ∧ (SqL K H p xs ∨ SqT K H p xs) ∧ RL K Hs H xs ds B' ∧ ∀ a, B'.count a ≤ B.count a := by
  cases r with
  | sc h' _ => cases x <;> simp [scD] at h' <;> subst h' <;> simp [itD] at h
  | @tup a xs es A vs ds B h1 h2 h3 => simp [itD] at h; subst h; exact ⟨a, xs, A, rfl, .inr (ext_t s h1), h2, fun a => by rw [List.count_append]; omega⟩
  | @frz a xs es vs ds B h1 h2 h3 => simp [itD] at h; subst h; exact ⟨a, xs, [], rfl, .inl (ext_l s h1), h2, fun a => by simp⟩
  | @lstS a xs es vs ds B h1 h2 h3 => simp [itD] at h; subst h; exact ⟨a, xs, [], rfl, .inl (.of (s _ _ h1)), h2, fun a => by simp⟩
  | @lstO a xs es A vs ds B h1 h2 h3 => simp [itD] at h; subst h; exact ⟨a, xs, A, rfl, .inl (.of h1), h2, fun a => by rw [List.count_cons, List.count_append]; omega⟩
  | dct h1 hk h2 h3 => simp [itD] at h
  | dctS h1 hk h2 h3 => simp [itD] at h
  | dead h3 => simp [itD] at h
theorem at_rel {xs : List V} {ds : List D} (r : RL K Hs H xs ds B) {i : Int} (h : atI ds i = some d) : ∃ v B', atI xs i = some v ∧ RL K Hs H [v] [d] B' ∧ ∀ a, B'.count a ≤ B.count a := by
  unfold atI at h ⊢
  rw [r.length]
  cases e : ixN ds.length i with
  | none => rw [e] at h; simp at h
  | some j =>
    rw [e] at h
    obtain ⟨v, B', h1, h2, h3⟩ := r.at (i := j) (d := d) (by simpa using h)
    exact ⟨v, B', by simpa using h1, h2, h3⟩
theorem rix {x y : V} {i : Int} (r : RL K Hs H [x] [d1] B) (s : ∀ a o, Hs a = some o → H a = some o) (ry : y = .int i) (h : ixD d1 i = some d) :
    ∃ v B', RL K Hs H [v] [d] B' ∧ (∀ a, B'.count a ≤ B.count a) ∧ ∀ Q : VK, Q v H → rIx K x y H Q := by
  unfold ixD at h
  cases e : itD d1 with
  | none => rw [e] at h; simp at h
  | some ds =>
    rw [e] at h
    obtain ⟨p, xs, B', rfl, hq, h2, h3⟩ := r.items s e
    obtain ⟨v, B2, e1, e2, e3⟩ := at_rel h2 (by simpa using h)
    refine ⟨v, B2, e2, fun a => Nat.le_trans (e3 a) (h3 a), fun Q q => ?_⟩
    rcases hq with hq | hq
    · exact .inl ⟨p, xs, i, v, rfl, ry, hq, e1, q⟩
    · exact .inr (.inl ⟨p, xs, i, v, rfl, ry, hq, e1, q⟩)
def eIx (ma mb : Exp) : Exp := fun env => (ma env).bind fun p => (mb p.2).bind fun q => match q.1 with
  | .int i => (match ixD p.1 i with
    | some d => .ok (d, q.2)
    | none => .no)
  | _ => .no
theorem ev_ix (ea : EvI K W ta ma) (eb : EvI K W tb mb) : EvI K W (tOp (rIx K) ta tb) (eIx ma mb) := by
  intro σ env F Hs H A rr o
  unfold eIx
  cases h1 : ma env with
  | no => trivial
  | ex x e => exact fun k Q => ea.ex rr o h1 k _
  | ok p =>
    obtain ⟨d1, env1⟩ := p
    simp only [Res.bind_ok]
    cases h2 : mb env1 with
    | no => trivial
    | ex x e => exact fun k Q => EvI.two_ex2 ea eb rr o h1 h2 k
    | ok q =>
      obtain ⟨d2, env2⟩ := q
      simp only [Res.bind_ok]
      cases d2 with
      | int i =>
        dsimp only
        cases h3 : ixD d1 i with
        | none => trivial
        | some d =>
          intro Q k
          refine EvI.two ea eb rr o h1 h2 fun x y Hs2 H2 B1 B2 A2 rx ry r2 o2 g2 => ?_
          obtain ⟨v, B', hv, hc, q⟩ := rix rx o2.sub ry.int h3
          exact q Q (k v Hs2 H2 B' A2 hv r2 (o2.less fun a => by have := hc a; simp only [List.count_append]; omega) (g2.less fun a c => by have := hc a; simp only [List.count_append] at c ⊢; omega))
      | _ => trivial
/-- x[e], x a name: its list is not shared by this -/
def live (env : Env) (i : Nat) : Bool := match env[i]? with
  | some c => !isDead c
  | none => false
theorem live_at (r : ER K Hs H σ env A) {i : Nat} (h : live env i = true) : ∃ v, σ[i]? = some (some v) := by
  unfold live at h
  cases e : env[i]? with
  | none => rw [e] at h; cases h
  | some c =>
    rw [e] at h
    obtain ⟨v, _, _, e1, _⟩ := r.at e (not_dead (by simpa using h))
    exact ⟨v, e1⟩
def eIxV (i : Nat) (mb : Exp) : Exp := fun env => if live env i then (mb env).bind fun q => match q.1, q.2[i]? with
  | .int j, some c => (match ixD c j with
    | some d => if own d then .ok (sh d, q.2.set i (sh c)) else .ok (d, q.2)
    | none => .no)
  | _, _ => .no
  else .no
theorem shL_get : ∀ {ds : List D} {j : Nat} {d : D}, ds[j]? = some d → (shL ds)[j]? = some (sh d)
  | [], j, d, h => by simp at h
  | e :: r, 0, d, h => by simp at h; subst h; rfl
  | e :: r, j + 1, d, h => by show (shL r)[j]? = _; exact shL_get (by simpa using h)
theorem shL_len : ∀ ds : List D, (shL ds).length = ds.length
  | [] => rfl
  | e :: r => congrArg Nat.succ (shL_len r)
theorem ixD_sh {c : D} {j : Int} (h : ixD c j = some d) : ixD (sh c) j = some (sh d) := by
  unfold ixD at h ⊢
  have go : ∀ ds : List D, atI ds j = some d → atI (shL ds) j = some (sh d) := fun ds h => by
    unfold atI at h ⊢
    rw [shL_len]
    cases e : ixN ds.length j with
    | none => rw [e] at h; simp at h
    | some k => rw [e] at h; simpa using shL_get (by simpa using h)
  cases c <;> simp [itD] at h <;> simp [sh, itD] <;> exact go _ h
theorem ixD_dead {c : D} {j : Int} (h : ixD c j = some d) : c ≠ .dead := fun e => by subst e; simp [ixD, itD] at h
theorem ev_ixV {i : Nat} (eb : EvI K W tb mb) : EvI K W (tOp (rIx K) (tVar i) tb) (eIxV i mb) := by
  intro σ env F Hs H A rr o
  unfold eIxV
  cases hl : live env i with
  | false => trivial
  | true =>
  obtain ⟨v, hv⟩ := live_at rr hl
  rw [if_pos rfl]
  cases h2 : mb env with
  | no => trivial
  | ex x e => exact fun k Q => ⟨v, hv, eb.ex rr o h2 k _⟩
  | ok q =>
    obtain ⟨d2, env2⟩ := q
    simp only [Res.bind_ok]
    cases d2 with
    | int j =>
      cases hc : env2[i]? with
      | none => trivial
      | some c =>
        dsimp only
        cases h3 : ixD c j with
        | none => trivial
        | some d =>
          dsimp only
          have hlt := (List.getElem?_eq_some_iff.mp hc).1
          cases hw : own d with
          | false =>
            intro Q k
            refine ⟨v, hv, eb.ok rr o h2 fun y Hs2 H2 B2 A2 ry r2 o2 g2 => ?_⟩
            obtain ⟨v', B, A1, e1, e2, e3, e4⟩ := r2.at hc (ixD_dead h3)
            rw [hv] at e1; cases e1
            obtain ⟨u, B', hu, hcn, q⟩ := rix e2 o2.sub ry.int h3
            have : B' = [] := hu.own0 (by simp [ownL, hw])
            subst this
            exact q Q (k u Hs2 H2 [] A2 hu r2 (o2.less fun a => by simp only [List.count_append, List.count_nil]; omega) (g2.less fun a c => by simp only [List.count_append, List.count_nil] at c ⊢; omega))
          | true =>
            intro Q k
            refine ⟨v, hv, eb.ok rr o h2 fun y Hs2 H2 B2 A2 ry r2 o2 g2 => ?_⟩
            obtain ⟨v', B, A1, e1, e2, e3, e4⟩ := r2.at hc (ixD_dead h3)
            rw [hv] at e1; cases e1
            have o1 : Ok Hs2 H2 (B ++ (F ++ A1)) := o2.less fun a => by have := e4 a; simp only [List.count_append]; omega
            have s1 := e2.share1 o1
            obtain ⟨A3, p1, p2⟩ := ER.give (e3.pool o1) s1 hv hlt
            obtain ⟨u, B', hu, hcn, q⟩ := rix s1 o1.pool.sub ry.int (ixD_sh h3)
            have : B' = [] := nil_of_count hcn
            subst this
            refine q Q (k u _ _ [] A3 hu p1 (o1.pool.less fun a => by have := p2 a; simp only [List.count_append, List.count_nil] at *; omega) ?_)
            have g : Go Hs H A Hs2 H2 (B ++ A1) := g2.less fun a c => by have := e4 a; simp only [List.count_append] at c ⊢; omega
            exact (g.pool o1).less fun a c => by have := p2 a; simp only [List.nil_append, List.count_nil] at *; omega
    | _ => trivial

/-! ### calls of defs of the text -/
/-- what a def does: its value, and what its first parameter holds behind it (dead where that is not told) -/
abbrev Fn := List D → Res (D × D)
def spI (K : PySem.W.Frag) (n : Nat) (m : Fn) : Sp := fun vs H Q _ => vs.length = n ∧ ∃ ds Hs F A p, RL K Hs H vs ds A ∧ Ok Hs H (F ++ A) ∧ m ds = .ok p ∧
  ∀ v Hs' H' B C, RL K Hs' H' [v] [p.1] B → RL K Hs' H' (vs.take 1) [p.2] C → Ok Hs' H' (B ++ (F ++ C)) → Go Hs H A Hs' H' (B ++ C) → Q v H'
def eCall (m : Fn) (ms : Arg) : Exp := fun env => (ms env).bind fun p => match m p.1 with
  | .ok q => .ok (q.1, p.2)
  | _ => .no
theorem ev_call {n : Nat} {f : Fn} {E : XK} {ta : TA} {ms : Arg} (hn : ∀ ds q, f ds = .ok q → ds.length = n) (e : EvA K W ta ms) : EvI K W (tCall (spI K n f) [] E ta) (eCall f ms) := by
  intro σ env F Hs H A r o
  unfold eCall
  cases h1 : ms env with
  | no => trivial
  | ex x e' => exact fun k Q => e.ex r o h1 k _
  | ok p =>
    obtain ⟨ds, env1⟩ := p
    simp only [Res.bind_ok]
    cases h2 : f ds with
    | no => trivial
    | ex x e' => trivial
    | ok q =>
      obtain ⟨d, d0⟩ := q
      intro Q k
      refine e.ok r o h1 fun vs Hs1 H1 B1 A1 rs r1 o1 g1 => ?_
      rw [List.append_nil]
      refine ⟨by rw [rs.length]; exact hn _ _ h2, ds, Hs1, F ++ A1, B1, (d, d0), rs, o1.less fun a => by simp only [List.count_append]; omega, h2, fun v Hs2 H2 B2 C2 rv r0 o2 g2 => ?_⟩
      refine k v Hs2 H2 B2 A1 rv (r1.mono g2.hs fun a w c h => g2.keep a w h ?_) (o2.less fun a => by simp only [List.count_append]; omega) ?_
      · have := o1.nd a; simp only [List.count_append] at this; omega
      · refine g1.trans ?_
        have g3 := g2.frame (F := A1)
        exact (g3.more fun a c => by simp only [List.count_append] at c ⊢; omega).less fun a c => by simp only [List.count_append] at c ⊢; omega
/-- f(x, ..), x a name whose list f changes -/
def eCallX (m : Fn) (i : Nat) (ms : Arg) : Exp := fun env => if live env i then (ms env).bind fun p => match p.2[i]? with
  | some c => if isDead c then .no else (match m (c :: p.1) with
    | .ok q => .ok (q.1, p.2.set i q.2)
    | _ => .no)
  | none => .no
  else .no
theorem ev_callX {n : Nat} {f : Fn} {E : XK} {i : Nat} {ta : TA} {ms : Arg} (hn : ∀ ds q, f ds = .ok q → ds.length = n) (e : EvA K W ta ms) : EvI K W (tCall (spI K n f) [] E (tCons (tVar i) ta)) (eCallX f i ms) := by
  intro σ env F Hs H A r o
  unfold eCallX
  cases hl : live env i with
  | false => trivial
  | true =>
  obtain ⟨v0, hv⟩ := live_at r hl
  rw [if_pos rfl]
  cases h1 : ms env with
  | no => trivial
  | ex x e' => exact fun k Q => ⟨v0, hv, e.ex r o h1 k _⟩
  | ok p =>
    obtain ⟨ds, env1⟩ := p
    simp only [Res.bind_ok]
    cases hc : env1[i]? with
    | none => trivial
    | some c =>
      dsimp only
      cases hd : isDead c with
      | true => trivial
      | false =>
      simp only [Bool.false_eq_true, if_false]
      cases h2 : f (c :: ds) with
      | no => trivial
      | ex x e' => trivial
      | ok q =>
        obtain ⟨d, d0⟩ := q
        intro Q k
        have hlt := (List.getElem?_eq_some_iff.mp hc).1
        refine ⟨v0, hv, e.ok r o h1 fun vs Hs1 H1 B1 A1 rs r1 o1 g1 => ?_⟩
        obtain ⟨v', B0, A0, e1, e2, e3, e4⟩ := r1.at hc (not_dead hd)
        rw [hv] at e1; cases e1
        rw [List.append_nil]
        refine ⟨by rw [List.length_cons, rs.length, ← hn _ _ h2, List.length_cons], c :: ds, Hs1, F ++ A0, B0 ++ B1, (d, d0), e2.cons rs, o1.less fun a => by have := e4 a; simp only [List.count_append]; omega, h2, fun v Hs2 H2 B2 C2 rv r0 o2 g2 => ?_⟩
        have e3' : ER K Hs2 H2 σ (env1.set i .dead) A0 := e3.mono g2.hs fun a w c h => g2.keep a w h (by have := o1.nd a; have := e4 a; simp only [List.count_append] at *; omega)
        obtain ⟨A3, p1, p2⟩ := ER.give e3' r0 hv hlt
        refine k v Hs2 H2 B2 A3 rv p1 (o2.less fun a => by have := p2 a; simp only [List.count_append]; omega) ?_
        have g3 := g2.frame (F := A0)
        exact g1.trans ((g3.more fun a c => by have := e4 a; simp only [List.count_append] at c ⊢; omega).less fun a c => by have := p2 a; simp only [List.count_append] at c ⊢; omega)

/-! ### built-in calls with a scalar answer -/
def CaS (K : PySem.W.Frag) (r : List V → Hp → VK → Prop) (f : List D → Option D) : Prop := ∀ Hs H vs ds B d, (∀ a o, Hs a = some o → H a = some o) → RL K Hs H vs ds B → f ds = some d → ∃ v, scD v = some d ∧ ∀ Q : VK, Q v H → r vs H Q
def eB (f : List D → Option D) (ms : Arg) : Exp := fun env => (ms env).bind fun p => match f p.1 with
  | some d => .ok (d, p.2)
  | none => .no
theorem ev_b {r : List V → Hp → VK → Prop} {f : List D → Option D} {ta : TA} {ms : Arg} (hr : CaS K r f) (e : EvA K W ta ms) : EvI K W (tCB r ta) (eB f ms) := by
  intro σ env F Hs H A rr o
  unfold eB
  cases h1 : ms env with
  | no => trivial
  | ex x e' => exact fun k Q => e.ex rr o h1 k _
  | ok p =>
    obtain ⟨ds, env1⟩ := p
    simp only [Res.bind_ok]
    cases h3 : f ds with
    | none => trivial
    | some d =>
      intro Q k
      refine e.ok rr o h1 fun vs Hs2 H2 B1 A2 rx r2 o2 g2 => ?_
      obtain ⟨v, hv, q⟩ := hr Hs2 H2 vs ds B1 d o2.sub rx h3
      exact q Q (k v Hs2 H2 [] A2 (.sc hv .nil) r2 (o2.less fun a => by simp only [List.count_append, List.count_nil]; omega) (g2.less fun a c => by simp only [List.count_append, List.count_nil] at c ⊢; omega))
/-- .. of a name alone, which is not shared by this -/
def eBV (f : List D → Option D) (i : Nat) : Exp := fun env => match env[i]? with
  | some c => if isDead c then .no else (match f [c] with
    | some d => .ok (d, env)
    | none => .no)
  | none => .no
theorem ev_bV {r : List V → Hp → VK → Prop} {f : List D → Option D} {i : Nat} (hr : CaS K r f) : EvI K W (tCB r (tCons (tVar i) tNil)) (eBV f i) := by
  intro σ env F Hs H A rr o
  unfold eBV
  cases hc : env[i]? with
  | none => trivial
  | some c =>
    dsimp only
    cases hd : isDead c with
    | true => trivial
    | false =>
    simp only [Bool.false_eq_true, if_false]
    cases h3 : f [c] with
    | none => trivial
    | some d =>
      intro Q k
      obtain ⟨v', B0, A0, e1, e2, e3, e4⟩ := rr.at hc (not_dead hd)
      obtain ⟨v, hv, q⟩ := hr Hs H [v'] [c] B0 d o.sub e2 h3
      exact ⟨v', e1, q Q (k v Hs H [] A (.sc hv .nil) rr (by simpa using o) (by simpa using Go.refl))⟩
theorem RL.one {vs : List V} (r : RL K Hs H vs [d] B) : ∃ v, vs = [v] ∧ RL K Hs H [v] [d] B := by
  cases vs with
  | nil => cases r
  | cons v vs =>
    have : vs = [] := List.eq_nil_of_length_eq_zero (by have := r.length; simpa using this)
    subst this
    exact ⟨v, rfl, r⟩
theorem RL.two {vs : List V} (r : RL K Hs H vs [d1, d2] B) : ∃ v w B1 B2, vs = [v, w] ∧ RL K Hs H [v] [d1] B1 ∧ RL K Hs H [w] [d2] B2 := by
  cases vs with
  | nil => cases r
  | cons v vs =>
    obtain ⟨B1, B2, _, r1, r2⟩ := r.un
    obtain ⟨w, rfl, r2⟩ := r2.one
    exact ⟨v, w, B1, B2, rfl, r1, r2⟩
def b1I (f : Int → Int) : List D → Option D
  | [.int i] => some (.int (f i))
  | _ => none
def b2I (f : Int → Int → Int) : List D → Option D
  | [.int i, .int j] => some (.int (f i j))
  | _ => none
def gAbs := b1I fun i => if i < 0 then -i else i
def gMax := b2I fun i j => if j > i then j else i
def gMin := b2I fun i j => if j < i then j else i
def gInt : List D → Option D
  | [.int i] => some (.int i)
  | [.bl k] => some (.int (if k then 1 else 0))
  | _ => none
def gLen : List D → Option D
  | [d] => (match d with
    | .str z => if z.length ≤ 1000000 then some (.int z.length) else none
    | d => (itD d).map fun ds => .int ds.length)
  | _ => none
theorem cs_1I {f : Int → Int} : CaS K (fun xs H Q => ∃ i, xs = [.int i] ∧ Q (.int (f i)) H) (b1I f) := by
  intro Hs H vs ds B d s r h
  unfold b1I at h
  split at h
  · rename_i i
    obtain ⟨v, rfl, r⟩ := r.one
    cases h
    exact ⟨.int (f i), rfl, fun Q q => ⟨i, by rw [r.int], q⟩⟩
  · cases h
theorem cs_2I {f : Int → Int → Int} : CaS K (fun xs H Q => ∃ i j, xs = [.int i, .int j] ∧ Q (.int (f i j)) H) (b2I f) := by
  intro Hs H vs ds B d s r h
  unfold b2I at h
  split at h
  · rename_i i j
    obtain ⟨v, w, _, _, rfl, r1, r2⟩ := r.two
    cases h
    exact ⟨.int (f i j), rfl, fun Q q => ⟨i, j, by rw [r1.int, r2.int], q⟩⟩
  · cases h
theorem cs_abs : CaS K (fun xs H Q => ∃ i, xs = [.int i] ∧ Q (.int (if i < 0 then -i else i)) H) gAbs := cs_1I
theorem cs_max : CaS K (fun xs H Q => ∃ i j, xs = [.int i, .int j] ∧ Q (.int (if j > i then j else i)) H) gMax := cs_2I
theorem cs_min : CaS K (fun xs H Q => ∃ i j, xs = [.int i, .int j] ∧ Q (.int (if j < i then j else i)) H) gMin := cs_2I
theorem cs_int : CaS K (fun xs H Q => (∃ i, xs = [.int i] ∧ Q (.int i) H) ∨ ∃ k, xs = [.bl k] ∧ Q (.int (if k then 1 else 0)) H) gInt := by
  intro Hs H vs ds B d s r h
  unfold gInt at h
  split at h
  · rename_i i
    obtain ⟨v, rfl, r⟩ := r.one
    cases h
    exact ⟨.int i, rfl, fun Q q => .inl ⟨i, by rw [r.int], q⟩⟩
  · rename_i i
    obtain ⟨v, rfl, r⟩ := r.one
    cases h
    exact ⟨.int _, rfl, fun Q q => .inr ⟨i, by rw [r.bl], q⟩⟩
  · cases h
theorem cs_len : CaS K (fun xs H Q => ∃ x n, xs = [x] ∧ LenV K x H n ∧ Q (.int n) H) gLen := by
  intro Hs H vs ds B d s r h
  unfold gLen at h
  split at h
  · rename_i e
    obtain ⟨v, rfl, r⟩ := r.one
    split at h
    · rename_i z _ _
      split at h
      · rename_i hz
        cases h
        exact ⟨.int _, rfl, fun Q q => ⟨v, _, rfl, by rw [r.strv]; exact ⟨Nat.le_trans hz (by decide), rfl⟩, q⟩⟩
      · cases h
    · cases e2 : itD e with
      | none => rw [e2] at h; cases h
      | some es =>
        rw [e2] at h
        cases h
        obtain ⟨p, xs, B', rfl, hq, h2, h3⟩ := r.items s e2
        refine ⟨.int es.length, rfl, fun Q q => ⟨.ref p, es.length, rfl, ?_, q⟩⟩
        rcases hq with hq | hq
        · exact .inl ⟨xs, hq, h2.length.symm⟩
        · exact .inr ⟨xs, hq, h2.length.symm⟩
  · cases h

/-! ### isinstance, by a built-in class -/
def kindD : D → Option String
  | .non => some "NoneType"
  | .bl _ => some "bool"
  | .int _ => some "int"
  | .str _ => some "str"
  | .tup _ => some "tuple"
  | .lst _ _ => some "list"
  | .frz _ => some "list"
  | .dct _ _ _ => some "dict"
  | _ => none
def instOf (k n : String) : Bool := k == n || (k == "bool" && n == "int")
def isiD (n : String) : List D → Option D
  | [d] => (kindD d).map fun k => .bl (instOf k n)
  | _ => none
theorem sqt_ty {a : Addr} {xs : List V} (h : SqT K H a xs) : TyX K H (.ref a) (.type "tuple") := by
  rcases h with (h | ⟨o, h⟩) | ⟨o, its, n, hk, hc, _⟩
  · exact .base (.tup h)
  · exact .fTuple h
  · exact .kTuple hk hc
theorem sql_ty {a : Addr} {xs : List V} (h : SqL K H a xs) : TyX K H (.ref a) (.type "list") := by
  rcases h with (h | ⟨o, h⟩) | ⟨o, its, n, hk, hc, _⟩
  · exact .base (.lst h)
  · exact .base (.frz h)
  · exact .kList hk hc
theorem ty_of {x : V} {k : String} (r : RL K Hs H [x] [d] B) (s : ∀ a o, Hs a = some o → H a = some o) (h : kindD d = some k) : TyX K H x (.type k) := by
  cases r with
  | sc h' _ => cases x <;> simp [scD] at h' <;> subst h' <;> simp [kindD] at h <;> subst h <;> first | exact .base .non | exact .base (.bl _) | exact .base (.int _) | exact .base (.str _)
  | tup h1 _ _ => simp [kindD] at h; subst h; exact sqt_ty (ext_t s h1)
  | frz h1 _ _ => simp [kindD] at h; subst h; exact sql_ty (ext_l s h1)
  | lstS h1 _ _ => simp [kindD] at h; subst h; exact .base (.lst (s _ _ h1))
  | lstO h1 _ _ => simp [kindD] at h; subst h; exact .base (.lst h1)
  | dct h1 _ _ _ => simp [kindD] at h; subst h; exact .base (.dK h1)
  | dctS h1 _ _ _ => simp [kindD] at h; subst h; exact .base (.dK (s _ _ h1))
  | dead _ => simp [kindD] at h
theorem kit_all : ∀ k ∈ ["NoneType", "bool", "int", "str", "tuple", "list", "dict"], ∀ n ∈ ["bool", "int", "str", "tuple", "list", "dict"], kitB k n = some (instOf k n) := by decide +kernel
theorem kind_in {d : D} {k : String} (h : kindD d = some k) : k ∈ ["NoneType", "bool", "int", "str", "tuple", "list", "dict"] := by
  cases d <;> simp [kindD] at h <;> subst h <;> decide
def eIsi (n : String) (ma : Exp) : Exp := fun env => (ma env).bind fun p => match isiD n [p.1] with
  | some d => .ok (d, p.2)
  | none => .no
theorem isi_run {n : String} (hn : n ∈ ["bool", "int", "str", "tuple", "list", "dict"]) {x : V} {b : D} (r : RL K Hs H [x] [d] B) (s : ∀ a o, Hs a = some o → H a = some o) (h : isiD n [d] = some b) :
    ∃ v, scD v = some b ∧ ∀ Q : VK, Q v H → rIsi K [x, .ty n] H Q := by
  replace h : (kindD d).map (fun k => D.bl (instOf k n)) = some b := h
  cases e : kindD d with
  | none => rw [e] at h; cases h
  | some k =>
    rw [e] at h
    cases h
    exact ⟨.bl _, rfl, fun Q q => ⟨x, .ty n, .type k, .type n, _, rfl, .ty n, ty_of r s e, kit_ty (kit_all k (kind_in e) n hn), q⟩⟩
theorem ev_isi {n : String} (hn : n ∈ ["bool", "int", "str", "tuple", "list", "dict"]) (e : EvI K W t m) : EvI K W (tCB (rIsi K) (tCons t (tCons (tC (.ty n)) tNil))) (eIsi n m) := by
  intro σ env F Hs H A rr o
  unfold eIsi
  cases h1 : m env with
  | no => trivial
  | ex x e' => exact fun k Q => e.ex rr o h1 k _
  | ok p =>
    obtain ⟨d, env1⟩ := p
    simp only [Res.bind_ok]
    cases h3 : isiD n [d] with
    | none => trivial
    | some b =>
      intro Q k
      refine e.ok rr o h1 fun x Hs2 H2 B1 A2 rx r2 o2 g2 => ?_
      obtain ⟨v, hv, q⟩ := isi_run hn rx o2.sub h3
      exact q Q (k v Hs2 H2 [] A2 (.sc hv .nil) r2 (o2.less fun a => by simp only [List.count_append, List.count_nil]; omega) (g2.less fun a c => by simp only [List.count_append, List.count_nil] at c ⊢; omega))
def eIsiV (n : String) (i : Nat) : Exp := eBV (isiD n) i
theorem ev_isiV {n : String} {i : Nat} (hn : n ∈ ["bool", "int", "str", "tuple", "list", "dict"]) : EvI K W (tCB (rIsi K) (tCons (tVar i) (tCons (tC (.ty n)) tNil))) (eIsiV n i) := by
  intro σ env F Hs H A rr o
  unfold eIsiV eBV
  cases hc : env[i]? with
  | none => trivial
  | some c =>
    dsimp only
    cases hd : isDead c with
    | true => trivial
    | false =>
    simp only [Bool.false_eq_true, if_false]
    cases h3 : isiD n [c] with
    | none => trivial
    | some d =>
      intro Q k
      obtain ⟨v', B0, A0, e1, e2, e3, e4⟩ := rr.at hc (not_dead hd)
      obtain ⟨v, hv, q⟩ := isi_run hn e2 o.sub h3
      exact ⟨v', e1, q Q (k v Hs H [] A (.sc hv .nil) rr (by simpa using o) (by simpa using Go.refl))⟩

/-! ### == and != of data -/
mutual
def toPy : D → Option PyData
  | .non => some .none
  | .bl b => some (.bool b)
  | .int i => some (.int i)
  | .str x => some (.str x)
  | .tup ds => (toPyL ds).map .tuple
  | .lst _ ds => (toPyL ds).map .list
  | .frz ds => (toPyL ds).map .list
  | _ => none
def toPyL : List D → Option (List PyData)
  | [] => some []
  | d :: ds => (toPy d).bind fun p => (toPyL ds).map fun ps => p :: ps
end
theorem RL.dp {vs : List V} {ds : List D} (r : RL K Hs H vs ds B) (s : ∀ a o, Hs a = some o → H a = some o) : ∀ {ps : List PyData}, toPyL ds = some ps → DpAll K H vs ps := by
  have mp : ∀ {α β : Type} {o : Option α} {f : α → β} {b : β}, o.map f = some b → ∃ a, o = some a ∧ f a = b := fun {α β o f b} h => by
    cases o with
    | none => cases h
    | some a => exact ⟨a, rfl, Option.some.inj h⟩
  have bn : ∀ {α β : Type} {o : Option α} {f : α → Option β} {b : β}, o.bind f = some b → ∃ a, o = some a ∧ f a = some b := fun {α β o f b} h => by
    cases o with
    | none => cases h
    | some a => exact ⟨a, rfl, h⟩
  induction r with
  | nil => intro ps h; cases h; exact .nil
  | @sc v d vs ds B h' _ ih =>
    intro ps h
    obtain ⟨p, h1, h2⟩ := bn h
    obtain ⟨q, h3, rfl⟩ := mp h2
    refine .cons ?_ (ih h3)
    cases v <;> simp [scD] at h' <;> subst h' <;> cases h1 <;> constructor
  | tup h' _ _ i1 i2 =>
    intro ps h
    obtain ⟨p, h1, h2⟩ := bn h
    obtain ⟨q, h3, rfl⟩ := mp h2
    obtain ⟨q', h4, rfl⟩ := mp h1
    exact .cons (.tup (ext_t s h') (i1 h4)) (i2 h3)
  | frz h' _ _ i1 i2 =>
    intro ps h
    obtain ⟨p, h1, h2⟩ := bn h
    obtain ⟨q, h3, rfl⟩ := mp h2
    obtain ⟨q', h4, rfl⟩ := mp h1
    exact .cons (.lst (ext_l s h') (i1 h4)) (i2 h3)
  | lstS h' _ _ i1 i2 =>
    intro ps h
    obtain ⟨p, h1, h2⟩ := bn h
    obtain ⟨q, h3, rfl⟩ := mp h2
    obtain ⟨q', h4, rfl⟩ := mp h1
    exact .cons (.lst (.of (s _ _ h')) (i1 h4)) (i2 h3)
  | lstO h' _ _ i1 i2 =>
    intro ps h
    obtain ⟨p, h1, h2⟩ := bn h
    obtain ⟨q, h3, rfl⟩ := mp h2
    obtain ⟨q', h4, rfl⟩ := mp h1
    exact .cons (.lst (.of h') (i1 h4)) (i2 h3)
  | dct h' _ _ _ _ _ => intro ps h; obtain ⟨p, h1, h2⟩ := bn h; cases h1
  | dctS h' _ _ _ _ _ => intro ps h; obtain ⟨p, h1, h2⟩ := bn h; cases h1
  | dead _ _ => intro ps h; obtain ⟨p, h1, h2⟩ := bn h; cases h1
theorem RL.strv' {x : V} {a : Str} (r : RL K Hs H [x] [.str a] B) : x = .str a := by
  cases r with
  | sc h _ => cases x <;> simp [scD] at h; subst h; rfl
def strEq : D → D → Option Bool
  | .str a, .str b => some (decide (a = b))
  | _, _ => none
def eqP (d1 d2 : D) : Option Bool := (toPy d1).bind fun p => (toPy d2).bind fun q => if SeqAt.shaped p && SeqAt.shaped q then some (PyData.eqv p q) else none
def eqD (d1 d2 : D) : Option Bool := match strEq d1 d2 with
  | some b => some b
  | none => eqP d1 d2
def fEq (d1 d2 : D) : Option D := (eqD d1 d2).map .bl
def fNe (d1 d2 : D) : Option D := (eqD d1 d2).map fun b => .bl (!b)
theorem RL.dp1 {x : V} {p : PyData} (r : RL K Hs H [x] [d] B) (s : ∀ a o, Hs a = some o → H a = some o) (h : toPy d = some p) : Dp K H x p := by
  have := r.dp s (ps := [p]) (by show (toPy d).bind _ = _; rw [h]; rfl)
  cases this with
  | cons a _ => exact a
theorem eqP_inv {b : Bool} (h : eqP d1 d2 = some b) : ∃ p q, toPy d1 = some p ∧ toPy d2 = some q ∧ SeqAt.shaped p = true ∧ SeqAt.shaped q = true ∧ b = PyData.eqv p q := by
  unfold eqP at h
  cases h1 : toPy d1 with
  | none => rw [h1] at h; cases h
  | some p =>
    cases h2 : toPy d2 with
    | none => rw [h1, h2] at h; cases h
    | some q =>
      rw [h1, h2] at h
      simp only [Option.bind_some] at h
      split at h
      · rename_i hc
        simp only [Bool.and_eq_true] at hc
        cases h
        exact ⟨p, q, rfl, rfl, hc.1, hc.2, rfl⟩
      · cases h
theorem strEq_inv {b : Bool} (h : strEq d1 d2 = some b) : ∃ a c, d1 = .str a ∧ d2 = .str c ∧ b = decide (a = c) := by
  cases d1 <;> cases d2 <;> simp only [strEq, reduceCtorEq, Option.some.injEq] at h
  exact ⟨_, _, rfl, rfl, h.symm⟩
theorem eqD_inv {b : Bool} (h : eqD d1 d2 = some b) : (∃ p q, toPy d1 = some p ∧ toPy d2 = some q ∧ SeqAt.shaped p = true ∧ SeqAt.shaped q = true ∧ b = PyData.eqv p q) ∨ ∃ a c, d1 = .str a ∧ d2 = .str c ∧ b = decide (a = c) := by
  unfold eqD at h
  split at h
  · rename_i k hk
    cases h
    exact .inr (strEq_inv hk)
  · exact .inl (eqP_inv h)
theorem os_eq : OpS K (fun x y H Q => rEqD K x y H Q ∨ rEq x y H Q) fEq := by
  intro Hs H x y d1 d2 B1 B2 d s rx ry e
  unfold fEq at e
  cases h : eqD d1 d2 with
  | none => rw [h] at e; cases e
  | some b =>
    rw [h] at e; cases e
    rcases eqD_inv h with ⟨p, q, h1, h2, h3, h4, rfl⟩ | ⟨a, c, rfl, rfl, rfl⟩
    · exact ⟨.bl _, rfl, fun Q w => .inl ⟨p, q, rx.dp1 s h1, ry.dp1 s h2, h3, h4, w⟩⟩
    · refine ⟨.bl _, rfl, fun Q w => .inr ?_⟩
      rw [rx.strv', ry.strv']
      exact ⟨rfl, by simpa using w⟩
theorem os_ne : OpS K (fun x y H Q => rNeD K x y H Q ∨ rNe x y H Q) fNe := by
  intro Hs H x y d1 d2 B1 B2 d s rx ry e
  unfold fNe at e
  cases h : eqD d1 d2 with
  | none => rw [h] at e; cases e
  | some b =>
    rw [h] at e; cases e
    rcases eqD_inv h with ⟨p, q, h1, h2, h3, h4, rfl⟩ | ⟨a, c, rfl, rfl, rfl⟩
    · exact ⟨.bl _, rfl, fun Q w => .inl ⟨p, q, rx.dp1 s h1, ry.dp1 s h2, h3, h4, w⟩⟩
    · refine ⟨.bl _, rfl, fun Q w => .inr ?_⟩
      rw [rx.strv', ry.strv']
      exact ⟨rfl, by simpa using w⟩
/-- x is None, x is not None -/
def isNon : D → Option Bool
  | .dead => none
  | .non => some true
  | .exo _ _ => none
  | _ => some false
theorem isNon_of {x : V} {b : Bool} (r : RL K Hs H [x] [d] B) (h : isNon d = some b) : decide (x = .non) = b := by
  cases r with
  | sc h' _ => cases x <;> simp [scD] at h' <;> subst h' <;> simp [isNon] at h <;> subst h <;> rfl
  | tup _ _ _ => simp [isNon] at h; subst h; rfl
  | frz _ _ _ => simp [isNon] at h; subst h; rfl
  | lstS _ _ _ => simp [isNon] at h; subst h; rfl
  | lstO _ _ _ => simp [isNon] at h; subst h; rfl
  | dct _ _ _ _ => simp [isNon] at h; subst h; rfl
  | dctS _ _ _ _ => simp [isNon] at h; subst h; rfl
  | dead _ => simp [isNon] at h
def eNonB (neg : Bool) (ma : Exp) : Exp := fun env => (ma env).bind fun p => match isNon p.1 with
  | some b => .ok (.bl (if neg then !b else b), p.2)
  | none => .no
theorem ev_isN (e : EvI K W t m) : EvI K W (tIsN t) (eNonB false m) := by
  intro σ env F Hs H A rr o
  unfold eNonB
  cases h1 : m env with
  | no => trivial
  | ex x e' => exact fun k Q => e.ex rr o h1 k _
  | ok p =>
    obtain ⟨d, env1⟩ := p
    simp only [Res.bind_ok]
    cases h3 : isNon d with
    | none => trivial
    | some b =>
      intro Q k
      refine e.ok rr o h1 fun x Hs2 H2 B1 A2 rx r2 o2 g2 => ?_
      rw [isNon_of rx h3]
      exact k (.bl b) Hs2 H2 [] A2 (.sc rfl .nil) r2 (o2.less fun a => by simp only [List.count_append, List.count_nil]; omega) (g2.less fun a c => by simp only [List.count_append, List.count_nil] at c ⊢; omega)
theorem ev_notN (e : EvI K W t m) : EvI K W (tNotN t) (eNonB true m) := by
  intro σ env F Hs H A rr o
  unfold eNonB
  cases h1 : m env with
  | no => trivial
  | ex x e' => exact fun k Q => e.ex rr o h1 k _
  | ok p =>
    obtain ⟨d, env1⟩ := p
    simp only [Res.bind_ok]
    cases h3 : isNon d with
    | none => trivial
    | some b =>
      intro Q k
      refine e.ok rr o h1 fun x Hs2 H2 B1 A2 rx r2 o2 g2 => ?_
      rw [isNon_of rx h3]
      exact k (.bl (!b)) Hs2 H2 [] A2 (.sc rfl .nil) r2 (o2.less fun a => by simp only [List.count_append, List.count_nil]; omega) (g2.less fun a c => by simp only [List.count_append, List.count_nil] at c ⊢; omega)
end
end Fl

/-! Fl: tests, statements, loops, comprehensions. -/
namespace Fl
open PySem PySem.Spec PyProof.Rows L2
section
variable {K : PySem.W.Frag} {W : Wh} {σ : L2.St} {env env' : Env} {F A A' B C : List Addr} {Hs H Hs' H' Hs'' H'' : Hp} {t ta tb : TE} {m ma mb : Exp} {d d1 d2 : D} {v : V} {tt tu : TT} {bm bn : Tst}

/-! ### tests -/
def bOf (m : Exp) : Tst := fun env => (m env).bind fun p => match p.1 with
  | .bl b => .ok (b, p.2)
  | _ => .no
theorem eb_of {tw : TT} (hw : ∀ σ H Q, (t σ H fun x H' => ∃ k, x = .bl k ∧ Q k H') → tw σ H Q) (e : EvI K W t m) : EvB K W tw (bOf m) := by
  intro σ env F Hs H A rr o
  unfold bOf
  cases h1 : m env with
  | no => trivial
  | ex x e' => exact fun k Q => hw _ _ _ (e.ex rr o h1 k _)
  | ok p =>
    obtain ⟨d, env1⟩ := p
    simp only [Res.bind_ok]
    cases d with
    | bl b =>
      intro Q k
      refine hw _ _ _ (e.ok rr o h1 fun x Hs2 H2 B1 A2 rx r2 o2 g2 => ⟨b, rx.bl, k Hs2 H2 A2 r2 (o2.less fun a => by simp only [List.count_append]; omega) (g2.less fun a c => by simp only [List.count_append]; omega)⟩)
    | _ => trivial
theorem eb_test (e : EvI K W t m) : EvB K W (tTest t) (bOf m) := eb_of (fun _ _ _ h => h) e
theorem eb_B (e : EvI K W t m) : EvB K W (tB t) (bOf m) := eb_of (fun _ _ _ h => h) e
def bNot (b : Tst) : Tst := fun env => (b env).bind fun p => .ok (!p.1, p.2)
def bAnd (b c : Tst) : Tst := fun env => (b env).bind fun p => if p.1 then c p.2 else .ok (false, p.2)
def bOr (b c : Tst) : Tst := fun env => (b env).bind fun p => if p.1 then .ok (true, p.2) else c p.2
theorem eb_not (e : EvB K W tt bm) : EvB K W (tNot tt) (bNot bm) := by
  intro σ env F Hs H A rr o
  unfold bNot
  cases h1 : bm env with
  | no => trivial
  | ex x e' => exact fun k Q => e.ex rr o h1 k _
  | ok p =>
    obtain ⟨b, env1⟩ := p
    intro Q k
    exact e.ok rr o h1 fun Hs2 H2 A2 r2 o2 g2 => k Hs2 H2 A2 r2 o2 g2
theorem eb_and (e : EvB K W tt bm) (f : EvB K W tu bn) : EvB K W (tAnd tt tu) (bAnd bm bn) := by
  intro σ env F Hs H A rr o
  unfold bAnd
  cases h1 : bm env with
  | no => trivial
  | ex x e' => exact fun k Q => e.ex rr o h1 k _
  | ok p =>
    obtain ⟨b, env1⟩ := p
    simp only [Res.bind_ok]
    cases b with
    | false => exact fun Q k => e.ok rr o h1 fun Hs2 H2 A2 r2 o2 g2 => k Hs2 H2 A2 r2 o2 g2
    | true =>
      simp only [if_true]
      cases h2 : bn env1 with
      | no => trivial
      | ex x e' => exact fun k Q => e.ok rr o h1 fun Hs2 H2 A2 r2 o2 g2 => f.ex r2 o2 h2 (k.after0 g2) _
      | ok q => exact fun Q k => e.ok rr o h1 fun Hs2 H2 A2 r2 o2 g2 => f.ok r2 o2 (show bn env1 = .ok (q.1, q.2) from h2) fun Hs3 H3 A3 r3 o3 g3 => k Hs3 H3 A3 r3 o3 (g2.trans g3)
theorem eb_or (e : EvB K W tt bm) (f : EvB K W tu bn) : EvB K W (tOr tt tu) (bOr bm bn) := by
  intro σ env F Hs H A rr o
  unfold bOr
  cases h1 : bm env with
  | no => trivial
  | ex x e' => exact fun k Q => e.ex rr o h1 k _
  | ok p =>
    obtain ⟨b, env1⟩ := p
    simp only [Res.bind_ok]
    cases b with
    | true => exact fun Q k => e.ok rr o h1 fun Hs2 H2 A2 r2 o2 g2 => k Hs2 H2 A2 r2 o2 g2
    | false =>
      simp only [Bool.false_eq_true, if_false]
      cases h2 : bn env1 with
      | no => trivial
      | ex x e' => exact fun k Q => e.ok rr o h1 fun Hs2 H2 A2 r2 o2 g2 => f.ex r2 o2 h2 (k.after0 g2) _
      | ok q => exact fun Q k => e.ok rr o h1 fun Hs2 H2 A2 r2 o2 g2 => f.ok r2 o2 (show bn env1 = .ok (q.1, q.2) from h2) fun Hs3 H3 A3 r3 o3 g3 => k Hs3 H3 A3 r3 o3 (g2.trans g3)

/-! ### and, or, not as values (of bools); a if t else b -/
def eNot (m : Exp) : Exp := eUn (fun d => match d with | .bl b => some (.bl (!b)) | _ => none) m
theorem ev_not (e : EvI K W t m) : EvI K W (tNotV t) (eNot m) := by
  have := ev_un (r := fun x H Q => ∃ c, x = .bl c ∧ Q (.bl (!c)) H) (f := fun d => match d with | .bl b => some (.bl (!b)) | _ => none) (fun Hs H x d1 B1 d s rx h => by
    cases d1 <;> simp at h
    subst h
    exact ⟨.bl _, rfl, fun Q q => ⟨_, rx.bl, q⟩⟩) e
  exact this
def eAnd (ma mb : Exp) : Exp := fun env => (ma env).bind fun p => match p.1 with
  | .bl b => if b then mb p.2 else .ok (.bl false, p.2)
  | _ => .no
def eOr (ma mb : Exp) : Exp := fun env => (ma env).bind fun p => match p.1 with
  | .bl b => if b then .ok (.bl true, p.2) else mb p.2
  | _ => .no
theorem Ok.un (o : Ok Hs H (B ++ (F ++ A))) : Ok Hs H (F ++ A) := o.less fun a => by simp only [List.count_append]; omega
theorem Go.un (g : Go Hs H A Hs' H' (B ++ A')) : Go Hs H A Hs' H' A' := g.less fun a c => by simp only [List.count_append]; omega
theorem ev_and (e : EvI K W ta ma) (f : EvI K W tb mb) : EvI K W (tAndV ta tb) (eAnd ma mb) := by
  intro σ env F Hs H A rr o
  unfold eAnd
  cases h1 : ma env with
  | no => trivial
  | ex x e' => exact fun k Q => e.ex rr o h1 k _
  | ok p =>
    obtain ⟨d, env1⟩ := p
    simp only [Res.bind_ok]
    cases d with
    | bl b =>
      dsimp only
      cases b with
      | false => exact fun Q k => e.ok rr o h1 fun x Hs2 H2 B1 A2 rx r2 o2 g2 => ⟨false, rx.bl, iteF (k (.bl false) Hs2 H2 [] A2 (.sc rfl .nil) r2 (by simpa using o2.un) (by simpa using g2.un))⟩
      | true =>
        simp only [if_true]
        cases h2 : mb env1 with
        | no => trivial
        | ex x e' => exact fun k Q => e.ok rr o h1 fun x Hs2 H2 B1 A2 rx r2 o2 g2 => ⟨true, rx.bl, iteT (f.ex r2 o2.un h2 (k.after0 g2.un) _)⟩
        | ok q => exact fun Q k => e.ok rr o h1 fun x Hs2 H2 B1 A2 rx r2 o2 g2 => ⟨true, rx.bl, iteT (f.ok r2 o2.un (show mb env1 = .ok (q.1, q.2) from h2) fun y Hs3 H3 B3 A3 ry r3 o3 g3 => k y Hs3 H3 B3 A3 ry r3 o3 (g2.un.trans g3))⟩
    | _ => trivial
theorem ev_or (e : EvI K W ta ma) (f : EvI K W tb mb) : EvI K W (tOrV ta tb) (eOr ma mb) := by
  intro σ env F Hs H A rr o
  unfold eOr
  cases h1 : ma env with
  | no => trivial
  | ex x e' => exact fun k Q => e.ex rr o h1 k _
  | ok p =>
    obtain ⟨d, env1⟩ := p
    simp only [Res.bind_ok]
    cases d with
    | bl b =>
      dsimp only
      cases b with
      | true => exact fun Q k => e.ok rr o h1 fun x Hs2 H2 B1 A2 rx r2 o2 g2 => ⟨true, rx.bl, iteT (k (.bl true) Hs2 H2 [] A2 (.sc rfl .nil) r2 (by simpa using o2.un) (by simpa using g2.un))⟩
      | false =>
        simp only [Bool.false_eq_true, if_false]
        cases h2 : mb env1 with
        | no => trivial
        | ex x e' => exact fun k Q => e.ok rr o h1 fun x Hs2 H2 B1 A2 rx r2 o2 g2 => ⟨false, rx.bl, iteF (f.ex r2 o2.un h2 (k.after0 g2.un) _)⟩
        | ok q => exact fun Q k => e.ok rr o h1 fun x Hs2 H2 B1 A2 rx r2 o2 g2 => ⟨false, rx.bl, iteF (f.ok r2 o2.un (show mb env1 = .ok (q.1, q.2) from h2) fun y Hs3 H3 B3 A3 ry r3 o3 g3 => k y Hs3 H3 B3 A3 ry r3 o3 (g2.un.trans g3))⟩
    | _ => trivial
def eIf (b : Tst) (ma mb : Exp) : Exp := fun env => (b env).bind fun p => if p.1 then ma p.2 else mb p.2
theorem ev_if (e : EvB K W tt bm) (ea : EvI K W ta ma) (eb : EvI K W tb mb) : EvI K W (tIf tt ta tb) (eIf bm ma mb) := by
  intro σ env F Hs H A rr o
  unfold eIf
  cases h1 : bm env with
  | no => trivial
  | ex x e' => exact fun k Q => e.ex rr o h1 k _
  | ok p =>
    obtain ⟨b, env1⟩ := p
    simp only [Res.bind_ok]
    cases b with
    | true =>
      simp only [if_true]
      cases h2 : ma env1 with
      | no => trivial
      | ex x e' => exact fun k Q => e.ok rr o h1 fun Hs2 H2 A2 r2 o2 g2 => iteT (ea.ex r2 o2 h2 (k.after0 g2) _)
      | ok q => exact fun Q k => e.ok rr o h1 fun Hs2 H2 A2 r2 o2 g2 => iteT (ea.ok r2 o2 (show ma env1 = .ok (q.1, q.2) from h2) fun y Hs3 H3 B3 A3 ry r3 o3 g3 => k y Hs3 H3 B3 A3 ry r3 o3 (g2.trans g3))
    | false =>
      simp only [Bool.false_eq_true, if_false]
      cases h2 : mb env1 with
      | no => trivial
      | ex x e' => exact fun k Q => e.ok rr o h1 fun Hs2 H2 A2 r2 o2 g2 => iteF (eb.ex r2 o2 h2 (k.after0 g2) _)
      | ok q => exact fun Q k => e.ok rr o h1 fun Hs2 H2 A2 r2 o2 g2 => iteF (eb.ok r2 o2 (show mb env1 = .ok (q.1, q.2) from h2) fun y Hs3 H3 B3 A3 ry r3 o3 g3 => k y Hs3 H3 B3 A3 ry r3 o3 (g2.trans g3))

/-! ### statements -/
inductive SR where
  | no | nx (env : Env) | rt (d : D) (env : Env) | bk (env : Env) | ct (env : Env) | ex (x : D) (env : Env)
abbrev Stm := Env → SR
def Pin (P : List Nat) (σ σ' : L2.St) : Prop := ∀ i, i ∈ P → σ'[i]? = σ[i]?
theorem Pin.refl {P : List Nat} : Pin P σ σ := fun _ _ => rfl
theorem Pin.trans {P : List Nat} {σ1 σ2 σ3 : L2.St} (a : Pin P σ1 σ2) (b : Pin P σ2 σ3) : Pin P σ1 σ3 := fun i h => (b i h).trans (a i h)
def NxS (K : PySem.W.Frag) (P : List Nat) (σ : L2.St) (F : List Addr) (Hs H : Hp) (A : List Addr) (R : L2.St → Hp → Prop) (env' : Env) : Prop :=
  ∀ σ' Hs' H' A', ER K Hs' H' σ' env' A' → Ok Hs' H' (F ++ A') → Go Hs H A Hs' H' A' → Pin P σ σ' → R σ' H'
def RtS (K : PySem.W.Frag) (P : List Nat) (σ : L2.St) (F : List Addr) (Hs H : Hp) (A : List Addr) (R : VK) (d : D) (env' : Env) : Prop :=
  ∀ v σ' Hs' H' B A', RL K Hs' H' [v] [d] B → ER K Hs' H' σ' env' A' → Ok Hs' H' (B ++ (F ++ A')) → Go Hs H A Hs' H' (B ++ A') → Pin P σ σ' → R v H'
def ExS (K : PySem.W.Frag) (W : Wh) (P : List Nat) (σ : L2.St) (F : List Addr) (Hs H : Hp) (A : List Addr) (x : D) (env' : Env) : Prop :=
  W.on ∧ ∀ c od σ' Hs' H' B A', W.XR Hs' H' x c od B → ER K Hs' H' σ' env' A' → Ok Hs' H' (B ++ (F ++ A')) → Go Hs H A Hs' H' (B ++ A') → Pin P σ σ' → W.W c od σ' H'
def PostS (K : PySem.W.Frag) (W : Wh) (P : List Nat) (t : TS) (D : Ends) (σ : L2.St) (F : List Addr) (Hs H : Hp) (A : List Addr) : SR → Prop
  | .no => True
  | .nx e => NxS K P σ F Hs H A D.nx e → t D σ H
  | .bk e => NxS K P σ F Hs H A D.bk e → t D σ H
  | .ct e => NxS K P σ F Hs H A D.ct e → t D σ H
  | .rt d e => RtS K P σ F Hs H A D.rt d e → t D σ H
  | .ex x e => ExS K W P σ F Hs H A x e → t D σ H
def StI (K : PySem.W.Frag) (W : Wh) (P : List Nat) (t : TS) (m : Stm) : Prop := ∀ σ env F Hs H A, ER K Hs H σ env A → Ok Hs H (F ++ A) → ∀ D, PostS K W P t D σ F Hs H A (m env)
variable {P : List Nat} {s u : TS} {sm um : Stm} {σ' : L2.St}
theorem NxS.after {R : L2.St → Hp → Prop} {e : Env} (k : NxS K P σ F Hs H A R e) (g : Go Hs H A Hs' H' A') (p : Pin P σ σ') : NxS K P σ' F Hs' H' A' R e :=
  fun s2 Hs2 H2 A2 r o g2 p2 => k s2 Hs2 H2 A2 r o (g.trans g2) (p.trans p2)
theorem RtS.after {R : VK} {e : Env} (k : RtS K P σ F Hs H A R d e) (g : Go Hs H A Hs' H' A') (p : Pin P σ σ') : RtS K P σ' F Hs' H' A' R d e :=
  fun v s2 Hs2 H2 B2 A2 rv r o g2 p2 => k v s2 Hs2 H2 B2 A2 rv r o (g.trans g2) (p.trans p2)
theorem ExS.after {x : D} {e : Env} (k : ExS K W P σ F Hs H A x e) (g : Go Hs H A Hs' H' A') (p : Pin P σ σ') : ExS K W P σ' F Hs' H' A' x e :=
  ⟨k.1, fun c od s2 Hs2 H2 B2 A2 xr r o g2 p2 => k.2 c od s2 Hs2 H2 B2 A2 xr r o (g.trans g2) (p.trans p2)⟩
theorem ExS.exO {x : D} {e : Env} (k : ExS K W P σ F Hs H A x e) : ExO K W σ F Hs H A x e := ⟨k.1, fun c od Hs2 H2 B2 A2 xr r o g => k.2 c od σ Hs2 H2 B2 A2 xr r o g Pin.refl⟩
theorem StI.go (h : StI K W P s sm) (r : ER K Hs H σ env A) (o : Ok Hs H (F ++ A)) (D : Ends) {R : SR} (e : sm env = R) : PostS K W P s D σ F Hs H A R := e ▸ h σ env F Hs H A r o D

def sPass : Stm := .nx
def sBreak : Stm := .bk
def sCont : Stm := .ct
theorem st_pass : StI K W P tNext sPass := fun σ env F Hs H A r o D k => k σ Hs H A r o Go.refl Pin.refl
theorem st_break : StI K W P tBreak sBreak := fun σ env F Hs H A r o D k => k σ Hs H A r o Go.refl Pin.refl
theorem st_cont : StI K W P tCont sCont := fun σ env F Hs H A r o D k => k σ Hs H A r o Go.refl Pin.refl
def sNever : Stm := fun _ => .no
theorem st_never : StI K W P s sNever := fun _ _ _ _ _ _ _ _ _ => trivial
/-- raise c(..), c an own class: what is raised as a tree -/
def sRaise (c : Str) (ms : Arg) : Stm := fun env => match ms env with
  | .ok p => .ex (.exo c p.1) p.2
  | .no => .no
  | .ex x e => .ex x e
theorem st_raise0 {c : Str} {ms : Arg} (h : ¬ W.on) : StI K W P s (sRaise c ms) := by
  intro σ env F Hs H A r o D
  unfold sRaise
  cases ms env with
  | no => trivial
  | ok p => exact fun k => absurd k.1 h
  | ex x e => exact fun k => absurd k.1 h
def sSeq (a b : Stm) : Stm := fun env => match a env with
  | .nx e => b e
  | r => r
theorem st_seq (a : StI K W P s sm) (b : StI K W P u um) : StI K W P (tSeq s u) (sSeq sm um) := by
  intro σ env F Hs H A r o D
  unfold sSeq
  cases h : sm env with
  | no => trivial
  | bk e => exact a.go r o { D with nx := u D } h
  | ct e => exact a.go r o { D with nx := u D } h
  | rt d e => exact a.go r o { D with nx := u D } h
  | ex x e => exact a.go r o { D with nx := u D } h
  | nx e =>
    have q := a.go r o { D with nx := u D } h
    dsimp only
    cases h2 : um e with
    | no => trivial
    | bk e2 => exact fun k => q fun s2 Hs2 H2 A2 r2 o2 g2 p2 => b.go r2 o2 D h2 (k.after g2 p2)
    | ct e2 => exact fun k => q fun s2 Hs2 H2 A2 r2 o2 g2 p2 => b.go r2 o2 D h2 (k.after g2 p2)
    | nx e2 => exact fun k => q fun s2 Hs2 H2 A2 r2 o2 g2 p2 => b.go r2 o2 D h2 (k.after g2 p2)
    | rt d e2 => exact fun k => q fun s2 Hs2 H2 A2 r2 o2 g2 p2 => b.go r2 o2 D h2 (k.after g2 p2)
    | ex x e2 => exact fun k => q fun s2 Hs2 H2 A2 r2 o2 g2 p2 => b.go r2 o2 D h2 (k.after g2 p2)
def sRet (m : Exp) : Stm := fun env => match m env with
  | .ok p => .rt p.1 p.2
  | .no => .no
  | .ex x e => .ex x e
theorem st_ret (e : EvI K W t m) : StI K W P (tRet t) (sRet m) := by
  intro σ env F Hs H A r o D
  unfold sRet
  cases h : m env with
  | no => trivial
  | ex x e' => exact fun k => e.ex r o h k.exO _
  | ok p => exact fun k => e.ok r o (show m env = .ok (p.1, p.2) from h) fun v Hs2 H2 B2 A2 rv r2 o2 g2 => k v σ Hs2 H2 B2 A2 rv r2 o2 g2 Pin.refl
def sRetN : Stm := fun env => .rt .non env
theorem st_retN : StI K W P tRetN sRetN := fun σ env F Hs H A r o D k => k .non σ Hs H [] A (.sc rfl .nil) r (by simpa using o) (by simpa using Go.refl) Pin.refl
def sExpr (m : Exp) : Stm := fun env => match m env with
  | .ok p => .nx p.2
  | .no => .no
  | .ex x e => .ex x e
theorem st_expr (e : EvI K W t m) : StI K W P (tDrop t) (sExpr m) := by
  intro σ env F Hs H A r o D
  unfold sExpr
  cases h : m env with
  | no => trivial
  | ex x e' => exact fun k => e.ex r o h k.exO _
  | ok p => exact fun k => e.ok r o (show m env = .ok (p.1, p.2) from h) fun v Hs2 H2 B2 A2 rv r2 o2 g2 => k σ Hs2 H2 A2 r2 o2.un g2.un Pin.refl
def sIf (b : Tst) (x y : Stm) : Stm := fun env => match b env with
  | .ok p => if p.1 then x p.2 else y p.2
  | .no => .no
  | .ex x e => .ex x e
theorem st_if (e : EvB K W tt bm) (a : StI K W P s sm) (b : StI K W P u um) : StI K W P (tIfS tt s u) (sIf bm sm um) := by
  intro σ env F Hs H A r o D
  unfold sIf
  cases h : bm env with
  | no => trivial
  | ex x e' => exact fun k => e.ex r o h k.exO _
  | ok p =>
    obtain ⟨c, env1⟩ := p
    dsimp only
    cases c with
    | true =>
      simp only [if_true]
      cases h2 : sm env1 with
      | no => trivial
      | nx e2 => exact fun k => e.ok r o h fun Hs2 H2 A2 r2 o2 g2 => iteT (a.go r2 o2 D h2 (k.after g2 Pin.refl))
      | bk e2 => exact fun k => e.ok r o h fun Hs2 H2 A2 r2 o2 g2 => iteT (a.go r2 o2 D h2 (k.after g2 Pin.refl))
      | ct e2 => exact fun k => e.ok r o h fun Hs2 H2 A2 r2 o2 g2 => iteT (a.go r2 o2 D h2 (k.after g2 Pin.refl))
      | rt d e2 => exact fun k => e.ok r o h fun Hs2 H2 A2 r2 o2 g2 => iteT (a.go r2 o2 D h2 (k.after g2 Pin.refl))
      | ex x e2 => exact fun k => e.ok r o h fun Hs2 H2 A2 r2 o2 g2 => iteT (a.go r2 o2 D h2 (k.after g2 Pin.refl))
    | false =>
      simp only [Bool.false_eq_true, if_false]
      cases h2 : um env1 with
      | no => trivial
      | nx e2 => exact fun k => e.ok r o h fun Hs2 H2 A2 r2 o2 g2 => iteF (b.go r2 o2 D h2 (k.after g2 Pin.refl))
      | bk e2 => exact fun k => e.ok r o h fun Hs2 H2 A2 r2 o2 g2 => iteF (b.go r2 o2 D h2 (k.after g2 Pin.refl))
      | ct e2 => exact fun k => e.ok r o h fun Hs2 H2 A2 r2 o2 g2 => iteF (b.go r2 o2 D h2 (k.after g2 Pin.refl))
      | rt d e2 => exact fun k => e.ok r o h fun Hs2 H2 A2 r2 o2 g2 => iteF (b.go r2 o2 D h2 (k.after g2 Pin.refl))
      | ex x e2 => exact fun k => e.ok r o h fun Hs2 H2 A2 r2 o2 g2 => iteF (b.go r2 o2 D h2 (k.after g2 Pin.refl))

/-! ### targets -/
abbrev Tgt := D → Env → Option Env
def GI (K : PySem.W.Frag) (P : List Nat) (g : TG) (f : Tgt) : Prop := ∀ σ env F Hs H A v d B env', RL K Hs H [v] [d] B → ER K Hs H σ env A → Ok Hs H (B ++ (F ++ A)) → f d env = some env' →
  ∀ Q : L2.St → Hp → Prop, (∀ σ' A', ER K Hs H σ' env' A' → (∀ a, A'.count a ≤ B.count a + A.count a) → Pin P σ σ' → Q σ' H) → g v σ H Q
def gN (i : Nat) : Tgt := fun d env => some (env.set i d)
theorem pin_set {i : Nat} (h : i ∉ P) (v : Option V) : Pin P σ (σ.set i v) := fun j hj => List.getElem?_set_ne fun e => h (by rw [e]; exact hj)
theorem ER.set (r : ER K Hs H σ env A) (rv : RL K Hs H [v] [d] B) (i : Nat) : ∃ A', ER K Hs H (σ.set i (some v)) (env.set i d) A' ∧ ∀ a, A'.count a ≤ B.count a + A.count a := by
  by_cases h : i < env.length
  · exact r.put rv h
  · have hl := r.length
    rw [List.set_eq_of_length_le (by omega), List.set_eq_of_length_le (by omega)]
    exact ⟨A, r, fun a => by omega⟩
theorem gi_name {i : Nat} (h : i ∉ P) : GI K P (gName i) (gN i) := by
  intro σ env F Hs H A v d B env' rv r o e Q k
  cases e
  obtain ⟨A', h1, h2⟩ := r.set rv i
  exact k _ A' h1 h2 (pin_set h _)
abbrev Tgts := List D → Env → Option Env
def GIs (K : PySem.W.Frag) (P : List Nat) (g : TGs) (f : Tgts) : Prop := ∀ σ env F Hs H A vs ds B env', RL K Hs H vs ds B → ER K Hs H σ env A → Ok Hs H (B ++ (F ++ A)) → f ds env = some env' →
  ∀ Q : L2.St → Hp → Prop, (∀ σ' A', ER K Hs H σ' env' A' → (∀ a, A'.count a ≤ B.count a + A.count a) → Pin P σ σ' → Q σ' H) → g vs σ H Q
def gsN : Tgts := fun ds env => match ds with
  | [] => some env
  | _ => none
def gsC (f : Tgt) (fs : Tgts) : Tgts := fun ds env => match ds with
  | [] => none
  | d :: r => (f d env).bind fun e => fs r e
theorem gis_nil : GIs K P gNil gsN := by
  intro σ env F Hs H A vs ds B env' rv r o e Q k
  cases ds with
  | nil => cases rv; cases e; exact ⟨rfl, k σ A r (fun a => by omega) Pin.refl⟩
  | cons d ds => cases e
theorem gis_cons {g : TG} {gs : TGs} {f : Tgt} {fs : Tgts} (h : GI K P g f) (hs : GIs K P gs fs) : GIs K P (gCons g gs) (gsC f fs) := by
  intro σ env F Hs H A vs ds B env' rv r o e Q k
  cases ds with
  | nil => cases e
  | cons d ds =>
    cases vs with
    | nil => cases rv
    | cons v vs =>
      obtain ⟨B1, B2, rfl, r1, r2⟩ := rv.un
      unfold gsC at e
      cases e1 : f d env with
      | none => simp [e1] at e
      | some env1 =>
        simp [e1] at e
        refine ⟨v, vs, rfl, h σ env (B2 ++ F) Hs H A v d B1 env1 r1 r (o.less fun a => by simp only [List.count_append]; omega) e1 _ fun s2 A2 q1 q2 p1 => ?_⟩
        refine hs s2 env1 F Hs H A2 vs ds B2 env' r2 q1 (o.less fun a => by have := q2 a; simp only [List.count_append]; omega) e Q fun s3 A3 q3 q4 p3 => k s3 A3 q3 (fun a => by have := q2 a; have := q4 a; simp only [List.count_append]; omega) (p1.trans p3)
def gT (n : Nat) (fs : Tgts) : Tgt := fun d env => match d with
  | .tup ds => if ds.length = n then fs ds env else none
  | _ => none
theorem gi_tup {n : Nat} {gs : TGs} {fs : Tgts} (hs : GIs K P gs fs) : GI K P (gTup K n gs) (gT n fs) := by
  intro σ env F Hs H A v d B env' rv r o e Q k
  cases d with
  | tup ds =>
    unfold gT at e
    dsimp only at e
    split at e
    · rename_i hn
      cases rv with
      | sc h _ => cases v <;> simp [scD] at h
      | @tup a xs es A1 vs ds' B1 h1 h2 h3 =>
        cases h3
        refine ⟨a, xs, rfl, ext_t o.sub h1, by rw [h2.length, hn], hs σ env F Hs H A xs ds A1 env' h2 r (by simpa using o) e Q fun s2 A2 q1 q2 p => k s2 A2 q1 (fun a => by have := q2 a; simp only [List.count_append]; omega) p⟩
    · cases e
  | _ => cases e
def sAsg (m : Exp) (f : Tgt) : Stm := fun env => match m env with
  | .ok p => (match f p.1 p.2 with
    | some e => .nx e
    | none => .no)
  | .no => .no
  | .ex x e => .ex x e
theorem st_asg {g : TG} {f : Tgt} (e : EvI K W t m) (h : GI K P g f) : StI K W P (tAsg t g) (sAsg m f) := by
  intro σ env F Hs H A r o D
  unfold sAsg
  cases h1 : m env with
  | no => trivial
  | ex x e' => exact fun k => e.ex r o h1 k.exO _
  | ok p =>
    obtain ⟨d, env1⟩ := p
    dsimp only
    cases h2 : f d env1 with
    | none => trivial
    | some env2 =>
      exact fun k => e.ok r o h1 fun v Hs2 H2 B2 A2 rv r2 o2 g2 => h σ env1 F Hs2 H2 A2 v d B2 env2 rv r2 o2 h2 _ fun s3 A3 q1 q2 p => k s3 Hs2 H2 A3 q1 (o2.less fun a => by have := q2 a; simp only [List.count_append]; omega) (g2.less fun a c => by have := q2 a; simp only [List.count_append]; omega) p
/-- a, b = e1, e2 -/
def sPar (i j : Nat) (ms : Arg) : Stm := fun env => match ms env with
  | .ok p => (match p.1 with
    | [x, y] => .nx ((p.2.set i x).set j y)
    | _ => .no)
  | .no => .no
  | .ex x e => .ex x e
theorem st_par {i j : Nat} {ta : TA} {ms : Arg} (hi : i ∉ P) (hj : j ∉ P) (e : EvA K W ta ms) : StI K W P (tPar i j ta) (sPar i j ms) := by
  intro σ env F Hs H A r o D
  unfold sPar
  cases h1 : ms env with
  | no => trivial
  | ex x e' => exact fun k => e.ex r o h1 k.exO _
  | ok p =>
    obtain ⟨ds, env1⟩ := p
    dsimp only
    split
    · rename_i x y
      intro k
      refine e.ok r o h1 fun vs Hs2 H2 B2 A2 rv r2 o2 g2 => ?_
      cases vs with
      | nil => cases rv
      | cons v vs =>
        obtain ⟨B3, B4, rfl, q1, q2⟩ := rv.un
        obtain ⟨w, rfl, q2⟩ := q2.one
        obtain ⟨A3, p1, p2⟩ := r2.set q1 i
        obtain ⟨A4, p3, p4⟩ := p1.set q2 j
        exact ⟨v, w, rfl, k _ Hs2 H2 A4 p3 (o2.less fun a => by have := p2 a; have := p4 a; simp only [List.count_append]; omega) (g2.less fun a c => by have := p2 a; have := p4 a; simp only [List.count_append]; omega) ((pin_set hi _).trans (pin_set hj _))⟩
    · trivial
end
end Fl

/-! Fl: stores into lists, loops, comprehensions, defs. -/
namespace Fl
open PySem PySem.Spec PyProof.Rows L2
section
variable {K : PySem.W.Frag} {W : Wh} {σ σ' : L2.St} {env env' : Env} {F A A' B C : List Addr} {Hs H Hs' H' Hs'' H'' Hs0 : Hp} {t ta tb : TE} {m ma mb : Exp} {d d1 d2 : D} {v : V} {tt tu : TT} {bm bn : Tst} {P : List Nat} {s u : TS} {sm um : Stm}

theorem RL.setAt : ∀ {xs : List V} {ds : List D} {A : List Addr} {j : Nat}, RL K Hs H xs ds A → RL K Hs H [v] [d] B → ∃ A', RL K Hs H (xs.set j v) (ds.set j d) A' ∧ ∀ a, A'.count a ≤ B.count a + A.count a
  | [], _, A, j, r, _ => ⟨A, by cases r; exact .nil, fun a => by omega⟩
  | x :: xs, [], A, j, r, _ => by cases r
  | x :: xs, e :: ds, A, 0, r, q => by
    obtain ⟨B1, C1, rfl, r1, r2⟩ := r.un
    exact ⟨B ++ C1, q.cons r2, fun a => by simp only [List.count_append]; omega⟩
  | x :: xs, e :: ds, A, j + 1, r, q => by
    obtain ⟨B1, C1, rfl, r1, r2⟩ := r.un
    obtain ⟨A', h1, h2⟩ := RL.setAt (j := j) r2 q
    exact ⟨B1 ++ A', r1.cons h1, fun a => by have := h2 a; simp only [List.count_append]; omega⟩
theorem RL.lstO_inv {x : V} {ds : List D} (r : RL K Hs H [x] [.lst true ds] B) : ∃ p xs A, x = .ref p ∧ H p = some (.lst xs) ∧ RL K Hs H xs ds A ∧ B = p :: A := by
  cases r with
  | sc h _ => cases x <;> simp [scD] at h
  | @lstO a xs es A vs ds B h1 h2 h3 => cases h3; exact ⟨a, xs, A, rfl, h1, h2, by simp⟩
theorem RL.tup_inv {x : V} {ds : List D} (r : RL K Hs H [x] [.tup ds] B) : ∃ p xs, x = .ref p ∧ SqT K Hs p xs ∧ RL K Hs H xs ds B := by
  cases r with
  | sc h _ => cases x <;> simp [scD] at h
  | tup h1 h2 h3 => cases h3; exact ⟨_, _, rfl, h1, by simpa using h2⟩
/-- an owned list gets other items -/
theorem Ok.wr {p : Addr} (o : Ok Hs H (p :: (B ++ C))) {u : HO} (h : ∀ a, A.count a ≤ B.count a) : Ok Hs (upd H p u) (p :: (A ++ C)) := by
  refine ⟨fun a w q => ?_, fun a => ?_, fun a c => o.off a ?_, fun a c => ?_⟩
  · by_cases e : a = p
    · subst e; rw [o.off a (by simp)] at q; cases q
    · rw [upd_ne e]; exact o.sub a w q
  · have := o.nd a; have := h a; simp only [List.count_cons, List.count_append] at *; omega
  · have := h a; simp only [List.count_cons, List.count_append] at *; omega
  · by_cases e : a = p
    · subst e; rw [upd_same]; simp
    · rw [upd_ne e]; exact o.has a (by have := h a; simp only [List.count_cons, List.count_append] at *; omega)
theorem Go.wr {p : Addr} (hp : 0 < A.count p) (x : HO) : Go Hs H A Hs (upd H p x) A := by
  refine ⟨fun a w h => h, fun a w h c => ?_, fun a w h k => (by rw [k] at h; cases h), fun a c => .inl c⟩
  rw [upd_ne (fun e => by subst e; omega)]
  exact h
theorem RL.wr {vs : List V} {ds : List D} (r : RL K Hs H vs ds A) {p : Addr} (hp : A.count p = 0) (x : HO) : RL K Hs (upd H p x) vs ds A :=
  r.mono (fun a o h => h) fun a o c h => by rw [upd_ne (fun e => by subst e; omega)]; exact h
theorem ER.wr (r : ER K Hs H σ env A) {p : Addr} (hp : A.count p = 0) (x : HO) : ER K Hs (upd H p x) σ env A :=
  r.mono (fun a o h => h) fun a o c h => by rw [upd_ne (fun e => by subst e; omega)]; exact h

/-- x[e1] = e, x a name of an owned list -/
def sSetIx (i : Nat) (me mi : Exp) : Stm := fun env => match me env with
  | .no => .no
  | .ex x e => .ex x e
  | .ok p => if live p.2 i then (match mi p.2 with
    | .no => .no
    | .ex x e => .ex x e
    | .ok q => match q.1, q.2[i]? with
      | .int k, some (.lst true ds) => (match ixN ds.length k with
        | some j => .nx (q.2.set i (.lst true (ds.set j p.1)))
        | none => .no)
      | _, _ => .no) else .no
theorem st_setIx {i : Nat} {te ti : TE} {me mi : Exp} (e : EvI K W te me) (ei : EvI K W ti mi) : StI K W P (tAsg te (gSub (tVar i) ti rSetL)) (sSetIx i me mi) := by
  intro σ env F Hs H A r o D
  unfold sSetIx
  cases h1 : me env with
  | no => trivial
  | ex x e' => exact fun k => e.ex r o h1 k.exO _
  | ok p =>
    obtain ⟨d, env1⟩ := p
    dsimp only
    cases hl : live env1 i with
    | false => trivial
    | true =>
    rw [if_pos rfl]
    cases h2 : mi env1 with
    | no => trivial
    | ex x e' =>
      intro k
      refine e.ok r o h1 fun v Hs1 H1 B1 A1 rv r1 o1 g1 => ?_
      obtain ⟨w, hw⟩ := live_at r1 hl
      exact ⟨w, hw, ei.ex r1 o1.un h2 (k.exO.after0 g1.un) _⟩
    | ok q =>
      obtain ⟨d2, env2⟩ := q
      dsimp only
      split
      · rename_i kk ds hc
        cases hj : ixN ds.length kk with
        | none => trivial
        | some j =>
          dsimp only
          intro k
          refine e.ok r o h1 fun v Hs1 H1 B1 A1 rv r1 o1 g1 => ?_
          obtain ⟨w, hw⟩ := live_at r1 hl
          refine ⟨w, hw, ei.ok (F := B1 ++ F) r1 (o1.less fun a => by simp only [List.count_append]; omega) h2 fun y Hs2 H2 B2 A2 ry r2 o2 g2 => ?_⟩
          have hlt := (List.getElem?_eq_some_iff.mp hc).1
          obtain ⟨w', B0, A0, e1, e2, e3, e4⟩ := r2.at hc (by simp)
          rw [hw] at e1; cases e1
          obtain ⟨p, xs, Ax, rfl, hp, hx, rfl⟩ := e2.lstO_inv
          have rv2 : RL K Hs2 H2 [v] [d] B1 := rv.go g2 fun a c => by have := o1.nd a; simp only [List.count_append] at this; omega
          have oo : Ok Hs2 H2 (p :: ((B1 ++ Ax) ++ (F ++ A0))) := o2.less fun a => by have := e4 a; simp only [List.count_cons, List.count_append] at *; omega
          have np := oo.nd p
          simp only [List.count_cons, List.count_append, beq_self_eq_true, if_true] at np
          obtain ⟨A', s1, s2⟩ := RL.setAt (j := j) (hx.wr (p := p) (x := .lst (xs.set j v)) (by omega)) (rv2.wr (p := p) (by omega) (.lst (xs.set j v)))
          have rl : RL K Hs2 (upd H2 p (.lst (xs.set j v))) [.ref p] [.lst true (ds.set j d)] (p :: A') := by simpa using RL.lstO upd_same s1 RL.nil
          obtain ⟨A3, p1, p2⟩ := ER.give (e3.wr (p := p) (by omega) (.lst (xs.set j v))) rl hw hlt
          refine ⟨p, xs, kk, j, rfl, ry.int, hp, by rw [hx.length]; exact hj, ?_⟩
          refine k σ Hs2 _ A3 p1 ((oo.wr (A := A') (B := B1 ++ Ax) fun a => by have := s2 a; simp only [List.count_append]; omega).less fun a => by have := p2 a; simp only [List.count_cons, List.count_append] at *; omega) ?_ Pin.refl
          have g3 : Go Hs H A Hs2 H2 (p :: ((B1 ++ Ax) ++ A0)) := (g1.trans ((g2.frame (F := B1)).less fun a c => by have := e4 a; simp only [List.count_cons, List.count_append] at *; omega))
          exact (g3.trans (Go.wr (by simp) _)).less fun a c => by have := p2 a; have := s2 a; simp only [List.count_cons, List.count_append] at *; omega
      · trivial

/-- x.append(e) as a statement -/
def isLst (env : Env) (i : Nat) : Bool := match env[i]? with
  | some (.lst _ _) => true
  | _ => false
def sApp (i : Nat) (me : Exp) : Stm := fun env => if isLst env i then (match me env with
  | .no => .no
  | .ex x e => .ex x e
  | .ok p => match p.2[i]? with
    | some (.lst true ds) => if ds.length < 100000 then .nx (p.2.set i (.lst true (ds ++ [p.1]))) else .no
    | _ => .no) else .no
theorem isLst_at (r : ER K Hs H σ env A) (s : ∀ a o, Hs a = some o → H a = some o) {i : Nat} (h : isLst env i = true) : ∃ p, σ[i]? = some (some (.ref p)) ∧ ∃ xs, SqL K H p xs := by
  unfold isLst at h
  split at h
  · rename_i o ds e
    obtain ⟨v, B, A', e1, e2, _⟩ := r.at e (by simp)
    obtain ⟨p, xs, B', rfl, hq, h2, h3⟩ := e2.items (ds := ds) s rfl
    refine ⟨p, e1, ?_⟩
    cases o with
    | true => obtain ⟨p', xs', _, e, hp, _⟩ := e2.lstO_inv; cases e; exact ⟨xs', .of hp⟩
    | false =>
      cases e2 with
      | sc h _ => simp [scD] at h
      | lstS h1 _ _ => exact ⟨_, .of (s _ _ h1)⟩
  · cases h
theorem st_app {i : Nat} {te : TE} {me : Exp} (e : EvI K W te me) : StI K W P (tDrop (tBM K "list" rAppend (tVar i) (tCons te tNil))) (sApp i me) := by
  intro σ env F Hs H A r o D
  unfold sApp
  cases hl : isLst env i with
  | false => trivial
  | true =>
  rw [if_pos rfl]
  obtain ⟨p, hw, ty⟩ := isLst_at r o.sub hl
  cases h1 : me env with
  | no => trivial
  | ex x e' => exact fun k => ⟨.ref p, hw, .inl ⟨rfl, ty⟩, e.ex r o h1 k.exO _⟩
  | ok q =>
    obtain ⟨d, env2⟩ := q
    dsimp only
    split
    · rename_i ds hc
      split
      · rename_i hz
        intro k
        refine ⟨.ref p, hw, .inl ⟨rfl, ty⟩, e.ok r o h1 fun v Hs2 H2 B1 A2 rv r2 o2 g2 => ?_⟩
        have hlt := (List.getElem?_eq_some_iff.mp hc).1
        obtain ⟨w', B0, A0, e1, e2, e3, e4⟩ := r2.at hc (by simp)
        rw [hw] at e1; cases e1
        obtain ⟨p', xs, Ax, ep, hp, hx, rfl⟩ := e2.lstO_inv
        cases ep
        have oo : Ok Hs2 H2 (p :: ((B1 ++ Ax) ++ (F ++ A0))) := o2.less fun a => by have := e4 a; simp only [List.count_cons, List.count_append] at *; omega
        have np := oo.nd p
        simp only [List.count_cons, List.count_append, beq_self_eq_true, if_true] at np
        have s1 : RL K Hs2 (upd H2 p (.lst (xs ++ [v]))) (xs ++ [v]) (ds ++ [d]) (Ax ++ B1) := (hx.wr (p := p) (x := .lst (xs ++ [v])) (by omega)).app (rv.wr (p := p) (by omega) (.lst (xs ++ [v])))
        have rl : RL K Hs2 (upd H2 p (.lst (xs ++ [v]))) [.ref p] [.lst true (ds ++ [d])] (p :: (Ax ++ B1)) := by simpa using RL.lstO upd_same s1 RL.nil
        obtain ⟨A3, p1, p2⟩ := ER.give (e3.wr (p := p) (by omega) (.lst (xs ++ [v]))) rl hw hlt
        refine ⟨p, xs, v, rfl, rfl, hp, by rw [hx.length]; exact Nat.lt_of_lt_of_le hz (by decide), ?_⟩
        refine k σ Hs2 _ A3 p1 ((oo.wr (A := Ax ++ B1) (B := B1 ++ Ax) fun a => by simp only [List.count_append]; omega).less fun a => by have := p2 a; simp only [List.count_cons, List.count_append] at *; omega) ?_ Pin.refl
        have g3 : Go Hs H A Hs2 H2 (p :: ((B1 ++ Ax) ++ A0)) := g2.less fun a c => by have := e4 a; simp only [List.count_cons, List.count_append] at *; omega
        exact (g3.trans (Go.wr (by simp) _)).less fun a c => by have := p2 a; simp only [List.count_cons, List.count_append] at *; omega
      · trivial
    · trivial

/-! ### + and * of any kind -/
def addD : D → D → Option D
  | .int i, .int j => some (.int (i + j))
  | .str x, .str y => if x.length + y.length ≤ 1000000 then some (.str (x ++ y)) else none
  | .lst _ xs, .lst _ ys => if xs.length + ys.length ≤ 100000 then some (.lst true (xs ++ ys)) else none
  | _, _ => none
def rAddG : R2 := fun x y H Q => rI0 (fun i j => .int (i + j)) x y H Q ∨ (∃ i j, x = .str i ∧ y = .str j ∧ i.length + j.length ≤ sizeLine ∧ Q (.str (i ++ j)) H) ∨ rCat x y H Q
/-- what a two-place operation gives: a value, perhaps new -/
def OpN (K : PySem.W.Frag) (r : R2) (f : D → D → Option D) : Prop := ∀ Hs H x y d1 d2 B1 B2 C d, RL K Hs H [x] [d1] B1 → RL K Hs H [y] [d2] B2 → Ok Hs H (B2 ++ (B1 ++ C)) → f d1 d2 = some d →
  ∀ Q : VK, (∀ v Hs' H' B, RL K Hs' H' [v] [d] B → Ok Hs' H' (B ++ C) → Go Hs H (B2 ++ B1) Hs' H' B → Q v H') → r x y H Q
theorem ev_binN {r : R2} {f : D → D → Option D} (hr : OpN K r f) (ea : EvI K W ta ma) (eb : EvI K W tb mb) : EvI K W (tOp r ta tb) (eBin f ma mb) := by
  intro σ env F Hs H A rr o
  unfold eBin
  cases h1 : ma env with
  | no => trivial
  | ex x e => exact fun k Q => ea.ex rr o h1 k _
  | ok p =>
    obtain ⟨d1, env1⟩ := p
    simp only [Res.bind_ok]
    cases h2 : mb env1 with
    | no => trivial
    | ex x e => exact fun k Q => EvI.two_ex2 ea eb rr o h1 h2 k
    | ok q =>
      obtain ⟨d2, env2⟩ := q
      simp only [Res.bind_ok]
      cases h3 : f d1 d2 with
      | none => trivial
      | some d =>
        intro Q k
        refine EvI.two ea eb rr o h1 h2 fun x y Hs2 H2 B1 B2 A2 rx ry r2 o2 g2 => ?_
        refine hr Hs2 H2 x y d1 d2 B1 B2 (F ++ A2) d rx ry (o2.less fun a => by simp only [List.count_append]; omega) h3 Q fun v Hs3 H3 B rv o3 g3 => k v Hs3 H3 B A2 rv (r2.mono g3.hs fun a w c h => g3.keep a w h ?_) o3 ?_
        · have := o2.nd a; simp only [List.count_append] at *; omega
        · have g4 := (g3.frame (F := A2)).more (B := B2 ++ (B1 ++ A2)) fun a c => by simp only [List.count_append] at *; omega
          exact (g2.trans g4).less fun a c => by simp only [List.count_append] at *; omega
theorem RL.lst_inv {x : V} {ow : Bool} {ds : List D} (r : RL K Hs H [x] [.lst ow ds] B) (s : ∀ a o, Hs a = some o → H a = some o) : ∃ p xs A, x = .ref p ∧ H p = some (.lst xs) ∧ RL K Hs H xs ds A ∧ ∀ a, A.count a ≤ B.count a := by
  cases r with
  | sc h _ => cases x <;> simp [scD] at h
  | @lstO a xs es A vs ds B h1 h2 h3 => exact ⟨a, xs, A, rfl, h1, h2, fun a => by rw [List.count_cons, List.count_append]; omega⟩
  | @lstS a xs es vs ds B h1 h2 h3 => exact ⟨a, xs, [], rfl, s _ _ h1, h2, fun a => by simp⟩
theorem sz1M {n : Nat} (h : n ≤ 1000000) : n ≤ sizeLine := Nat.le_trans h (by decide)
theorem on_add : OpN K rAddG addD := by
  intro Hs H x y d1 d2 B1 B2 C d rx ry o e Q k
  have less : ∀ a, C.count a ≤ (B2 ++ (B1 ++ C)).count a := fun a => by simp only [List.count_append]; omega
  unfold addD at e
  split at e
  · rename_i i j
    cases e
    exact .inl ⟨i, j, rx.int, ry.int, k _ Hs H [] (.sc rfl .nil) (by simpa using o.less less) (Go.refl.less fun a c => by simp at c)⟩
  · rename_i i j
    split at e
    · rename_i hz
      cases e
      exact .inr (.inl ⟨i, j, rx.strv, ry.strv, sz1M hz, k _ Hs H [] (.sc rfl .nil) (by simpa using o.less less) (Go.refl.less fun a c => by simp at c)⟩)
    · cases e
  · rename_i o1 xs o2 ys
    split at e
    · rename_i hz
      cases e
      obtain ⟨p, vs, A1, rfl, hp, r1, c1⟩ := rx.lst_inv o.sub
      obtain ⟨q, ws, A2, rfl, hq, r2, c2⟩ := ry.lst_inv o.sub
      refine .inr (.inr ⟨p, q, vs, ws, rfl, rfl, hp, hq, by rw [r1.length, r2.length]; exact sz1000 hz, fun n hn => ?_⟩)
      have oo : Ok Hs H ((A1 ++ A2) ++ C) := o.less fun a => by have := c1 a; have := c2 a; simp only [List.count_append]; omega
      refine k (.ref n) Hs _ (n :: (A1 ++ A2)) ?_ (oo.newO hn _) ?_
      · simpa using RL.lstO upd_same ((r1.app r2).newO hn (.lst (vs ++ ws))) RL.nil
      · exact (Go.newO (A := B2 ++ B1) hn _).less fun a c => by have := c1 a; have := c2 a; simp only [List.count_cons, List.count_append] at *; omega
    · cases e
  · cases e
def mulD : D → D → Option D
  | .int i, .int j => if i.natAbs.log2 + j.natAbs.log2 < 1000000 then some (.int (i * j)) else none
  | .lst _ xs, .int k => if k ≤ 1000000 ∧ -1000000 ≤ k ∧ xs.length * k.toNat ≤ 100000 ∧ ownL xs = false then some (.lst true (List.replicate k.toNat xs).flatten) else none
  | _, _ => none
def rMulG : R2 := fun x y H Q => rI CMulW (fun i j => .int (i * j)) x y H Q ∨ rRep x y H Q
theorem RL.rep {xs : List V} {ds : List D} (r : RL K Hs H xs ds []) : ∀ k : Nat, RL K Hs H (List.replicate k xs).flatten (List.replicate k ds).flatten []
  | 0 => .nil
  | k + 1 => by
    rw [List.replicate_succ, List.replicate_succ, List.flatten_cons, List.flatten_cons]
    exact r.app (RL.rep r k)
theorem on_mul : OpN K rMulG mulD := by
  intro Hs H x y d1 d2 B1 B2 C d rx ry o e Q k
  have less : ∀ a, C.count a ≤ (B2 ++ (B1 ++ C)).count a := fun a => by simp only [List.count_append]; omega
  unfold mulD at e
  split at e
  · rename_i i j
    split at e
    · rename_i hz
      cases e
      exact .inl ⟨i, j, rx.int, ry.int, hz, k _ Hs H [] (.sc rfl .nil) (by simpa using o.less less) (Go.refl.less fun a c => by simp at c)⟩
    · cases e
  · rename_i o1 xs j
    split at e
    · rename_i hz
      cases e
      obtain ⟨p, vs, A1, rfl, hp, r1, c1⟩ := rx.lst_inv o.sub
      have : A1 = [] := r1.own0 hz.2.2.2
      subst this
      refine .inr ⟨p, j, vs, rfl, ry.int, hp, by have := hz.2.1; omega, by have := hz.1; omega, by rw [r1.length]; exact sz1000 hz.2.2.1, fun n hn => ?_⟩
      have oo : Ok Hs H C := o.less less
      refine k (.ref n) Hs _ [n] ?_ (oo.newO hn _) ?_
      · simpa using RL.lstO upd_same ((r1.rep j.toNat).newO hn (.lst (List.replicate j.toNat vs).flatten)) RL.nil
      · exact (Go.newO (A := B2 ++ B1) hn _).less fun a c => by simp only [List.count_cons, List.count_append, List.count_nil] at *; omega
    · cases e
  · cases e
theorem us_neg : UnS K (rU fun i => .int (-i)) (fun d => match d with | .int i => some (.int (-i)) | _ => none) := by
  intro Hs H x d1 B1 d s rx e
  cases d1 <;> simp at e
  subst e
  exact ⟨.int _, rfl, fun Q q => ⟨_, rx.int, q⟩⟩
def fNeg : D → Option D := fun d => match d with | .int i => some (.int (-i)) | _ => none

/-! ### what is walked -/
/-- the iterator J gives values that bear ds, whatever of the shared heap has grown since Hs0 -/
def Gives (K : PySem.W.Frag) (J : It) (ds : List D) (Hs0 : Hp) : Prop := ∃ (G : Hp → Prop) (Y : Nat → Hp → V → Hp → Prop), Walk J ds.length G Y ∧
  (∀ Hs H : Hp, (∀ a o, Hs0 a = some o → Hs a = some o) → (∀ a o, Hs a = some o → H a = some o) → G H) ∧
  ∀ (i : Nat) (d : D) (Hs H : Hp) (x : V) (H' : Hp), ds[i]? = some d → (∀ a o, Hs0 a = some o → Hs a = some o) → (∀ a o, Hs a = some o → H a = some o) → Y i H x H' →
    ∃ Hs' : Hp, Go Hs H [] Hs' H' [] ∧ (∀ a o, Hs' a = some o → H' a = some o) ∧ RL K Hs' H' [x] [d] []
abbrev Itm := Env → Res (List D × Env)
def PostI (K : PySem.W.Frag) (W : Wh) (wi : TI) (σ : L2.St) (F : List Addr) (Hs H : Hp) (A : List Addr) : Res (List D × Env) → Prop
  | .no => True
  | .ok p => ∀ R : It → Hp → Prop, (∀ J Hs' H' A', Gives K J p.1 Hs' → ER K Hs' H' σ p.2 A' → Ok Hs' H' (F ++ A') → Go Hs H A Hs' H' A' → R J H') → wi σ H R
  | .ex x env' => ExO K W σ F Hs H A x env' → ∀ R : It → Hp → Prop, wi σ H R
def ItI (K : PySem.W.Frag) (W : Wh) (wi : TI) (m : Itm) : Prop := ∀ σ env F Hs H A, ER K Hs H σ env A → Ok Hs H (F ++ A) → PostI K W wi σ F Hs H A (m env)
theorem ItI.ok {wi : TI} {mi : Itm} {ds : List D} (e : ItI K W wi mi) (r : ER K Hs H σ env A) (o : Ok Hs H (F ++ A)) (h : mi env = .ok (ds, env')) {R : It → Hp → Prop}
    (k : ∀ J Hs' H' A', Gives K J ds Hs' → ER K Hs' H' σ env' A' → Ok Hs' H' (F ++ A') → Go Hs H A Hs' H' A' → R J H') : wi σ H R := by
  have := e σ env F Hs H A r o
  rw [h] at this
  exact this R k
theorem ItI.ex {wi : TI} {mi : Itm} {x : D} (e : ItI K W wi mi) (r : ER K Hs H σ env A) (o : Ok Hs H (F ++ A)) (h : mi env = .ex x env') (k : ExO K W σ F Hs H A x env') (R : It → Hp → Prop) : wi σ H R := by
  have := e σ env F Hs H A r o
  rw [h] at this
  exact this k R
def rangeD (lo : Int) (n : Nat) : List D := (List.range n).map fun i => .int (lo + (i : Nat))
theorem rangeD_len (lo : Int) (n : Nat) : (rangeD lo n).length = n := by simp [rangeD]
theorem gives_range (lo : Int) (n : Nat) : Gives K (L2.Itr lo n) (rangeD lo n) Hs0 := by
  refine ⟨fun _ => True, YFn fun i => .int (lo + i), by rw [rangeD_len]; exact walk_range, fun _ _ _ _ => trivial, fun i d Hs H x H' hd _ s y => ?_⟩
  obtain ⟨rfl, rfl⟩ := y
  refine ⟨Hs, Go.refl, s, .sc ?_ .nil⟩
  unfold rangeD at hd
  rw [List.getElem?_map] at hd
  cases e : (List.range n)[i]? with
  | none => rw [e] at hd; cases hd
  | some j =>
    rw [e] at hd
    have := (List.getElem?_eq_some_iff.mp e).2
    simp at this
    subst this
    exact hd
theorem gives_list {a : Addr} {xs : List V} {ds : List D} (hx : SqL K Hs0 a xs) (r : RL K Hs0 H xs ds []) : Gives K (Itl K a) ds Hs0 := by
  refine ⟨fun H => SqL K H a xs, YAt xs, by rw [← r.length]; exact walk_list, fun Hs H e s => ext_l s (ext_l e hx), fun i d Hs H2 x H' hd e s y => ?_⟩
  obtain ⟨rfl, hi⟩ := y
  obtain ⟨v, h1, h2⟩ := r.at0 hd
  rw [hi] at h1; cases h1
  exact ⟨Hs, Go.refl, s, h2.mono e fun a o c => by simp at c⟩
theorem gives_tup {a : Addr} {xs : List V} {ds : List D} (hx : SqT K Hs0 a xs) (r : RL K Hs0 H xs ds []) : Gives K (Itt K a) ds Hs0 := by
  refine ⟨fun H => SqT K H a xs, YAt xs, by rw [← r.length]; exact walk_tup, fun Hs H e s => ext_t s (ext_t e hx), fun i d Hs H2 x H' hd e s y => ?_⟩
  obtain ⟨rfl, hi⟩ := y
  obtain ⟨v, h1, h2⟩ := r.at0 hd
  rw [hi] at h1; cases h1
  exact ⟨Hs, Go.refl, s, h2.mono e fun a o c => by simp at c⟩
def iR1 (ms : Arg) : Itm := fun env => (ms env).bind fun p => match p.1 with
  | [.int n] => if -1000000 ≤ n ∧ n ≤ 1000000 then .ok (rangeD 0 n.toNat, p.2) else .no
  | _ => .no
def iR2 (ms : Arg) : Itm := fun env => (ms env).bind fun p => match p.1 with
  | [.int a, .int b] => if -1000000 ≤ a ∧ a ≤ 1000000 ∧ -1000000 ≤ b ∧ b ≤ 1000000 then .ok (rangeD a (b - a).toNat, p.2) else .no
  | _ => .no
theorem it_R1 {ta : TA} {ms : Arg} (e : EvA K W ta ms) : ItI K W (iRng1 ta) (iR1 ms) := by
  intro σ env F Hs H A r o
  unfold iR1
  cases h1 : ms env with
  | no => trivial
  | ex x e' => exact fun k R => e.ex r o h1 k _
  | ok p =>
    obtain ⟨ds, env1⟩ := p
    simp only [Res.bind_ok]
    split
    · rename_i n
      split
      · rename_i hn
        intro R k
        refine e.ok r o h1 fun vs Hs2 H2 B2 A2 rv r2 o2 g2 => ?_
        obtain ⟨v, rfl, rv⟩ := rv.one
        exact ⟨n, by rw [rv.int], by omega, by omega, k _ Hs2 H2 A2 (gives_range 0 n.toNat) r2 o2.un g2.un⟩
      · trivial
    · trivial
theorem it_R2 {ta : TA} {ms : Arg} (e : EvA K W ta ms) : ItI K W (iRng2 ta) (iR2 ms) := by
  intro σ env F Hs H A r o
  unfold iR2
  cases h1 : ms env with
  | no => trivial
  | ex x e' => exact fun k R => e.ex r o h1 k _
  | ok p =>
    obtain ⟨ds, env1⟩ := p
    simp only [Res.bind_ok]
    split
    · rename_i i j
      split
      · rename_i hn
        intro R k
        refine e.ok r o h1 fun vs Hs2 H2 B2 A2 rv r2 o2 g2 => ?_
        obtain ⟨v, w, _, _, rfl, rv, rw'⟩ := rv.two
        exact ⟨i, j, by rw [rv.int, rw'.int], ⟨by omega, by omega, by omega, by omega⟩, k _ Hs2 H2 A2 (gives_range i (j - i).toNat) r2 o2.un g2.un⟩
      · trivial
    · trivial
/-- the items of a list that is evaluated: it is shared from then on -/
def iL (m : Exp) : Itm := fun env => (m env).bind fun p => match p.1 with
  | .lst _ ds => .ok (shL ds, p.2)
  | .frz ds => .ok (ds, p.2)
  | _ => .no
theorem it_L (e : EvI K W t m) : ItI K W (iList K t) (iL m) := by
  intro σ env F Hs H A r o
  unfold iL
  cases h1 : m env with
  | no => trivial
  | ex x e' => exact fun k R => e.ex r o h1 k _
  | ok p =>
    obtain ⟨d, env1⟩ := p
    simp only [Res.bind_ok]
    cases d with
    | lst ow ds =>
      intro R k
      refine e.ok r o h1 fun v Hs2 H2 B2 A2 rv r2 o2 g2 => ?_
      have s1 := rv.share1 o2
      have : sh (.lst ow ds) = .lst false (shL ds) := by simp [sh]
      rw [this] at s1
      cases s1 with
      | sc h _ => cases v <;> simp [scD] at h
      | @lstS a xs es vs ds' B h1 h2 h3 =>
        exact ⟨a, rfl, ⟨xs, ext_l o2.pool.sub (.of h1)⟩, k _ _ _ A2 (gives_list (.of h1) h2) (r2.pool o2) o2.pool (g2.pool o2)⟩
    | frz ds =>
      intro R k
      refine e.ok r o h1 fun v Hs2 H2 B2 A2 rv r2 o2 g2 => ?_
      cases rv with
      | sc h _ => cases v <;> simp [scD] at h
      | @frz a xs es vs ds' B h1 h2 h3 =>
        cases h3
        exact ⟨a, rfl, ⟨xs, ext_l o2.sub h1⟩, k _ _ _ A2 (gives_list h1 h2) r2 (by simpa using o2) (by simpa using g2)⟩
    | _ => trivial
def iT (m : Exp) : Itm := fun env => (m env).bind fun p => match p.1 with
  | .tup ds => .ok (shL ds, p.2)
  | _ => .no
theorem it_T (e : EvI K W t m) : ItI K W (iTup K t) (iT m) := by
  intro σ env F Hs H A r o
  unfold iT
  cases h1 : m env with
  | no => trivial
  | ex x e' => exact fun k R => e.ex r o h1 k _
  | ok p =>
    obtain ⟨d, env1⟩ := p
    simp only [Res.bind_ok]
    cases d with
    | tup ds =>
      intro R k
      refine e.ok r o h1 fun v Hs2 H2 B2 A2 rv r2 o2 g2 => ?_
      have s1 := rv.share1 o2
      have : sh (.tup ds) = .tup (shL ds) := by simp [sh]
      rw [this] at s1
      obtain ⟨a, xs, rfl, h1, h2⟩ := s1.tup_inv
      exact ⟨a, rfl, ⟨xs, ext_t o2.pool.sub h1⟩, k _ _ _ A2 (gives_tup h1 h2) (r2.pool o2) o2.pool (g2.pool o2)⟩
    | _ => trivial

/-! ### for -/
def forL (f : Tgt) (body : Stm) : List D → Env → SR
  | [], env => .nx env
  | d :: ds, env => match f d env with
    | none => .no
    | some e => match body e with
      | .nx e => forL f body ds e
      | .ct e => forL f body ds e
      | .bk e => .nx e
      | r => r
def sFor (it : Itm) (f : Tgt) (body : Stm) : Stm := fun env => match it env with
  | .ok p => forL f body p.1 p.2
  | .no => .no
  | .ex x e => .ex x e
theorem Go.with0 (g : Go Hs H [] Hs' H' []) : Go Hs H A Hs' H' A := (g.frame (F := A)).less (fun a c => by simpa using c) |>.more fun a c => by simpa using c
theorem st_for {wi : TI} {mi : Itm} {g : TG} {f : Tgt} (ei : ItI K W wi mi) (eg : GI K P g f) (eb : StI K W P s sm) : StI K W P (tFor wi g s) (sFor mi f sm) := by
  intro σ env F Hs H A r o D
  unfold sFor
  cases h1 : mi env with
  | no => trivial
  | ex x e' => exact fun k => ei.ex r o h1 k.exO _
  | ok p =>
    obtain ⟨ds, env1⟩ := p
    dsimp only
    -- the whole result
    suffices main : ∀ R, forL f sm ds env1 = R → R ≠ .no → (∀ e, R = .nx e → NxS K P σ F Hs H A D.nx e) → (∀ e, R = .bk e → NxS K P σ F Hs H A D.bk e) → (∀ e, R = .ct e → NxS K P σ F Hs H A D.ct e) →
        (∀ d e, R = .rt d e → RtS K P σ F Hs H A D.rt d e) → (∀ x e, R = .ex x e → ExS K W P σ F Hs H A x e) → tFor wi g s D σ H by
      cases hR : forL f sm ds env1 with
      | no => trivial
      | nx e => exact fun k => main _ hR (by simp) (fun e' h => by cases h; exact k) (fun e' h => by cases h) (fun e' h => by cases h) (fun d' e' h => by cases h) (fun x' e' h => by cases h)
      | bk e => exact fun k => main _ hR (by simp) (fun e' h => by cases h) (fun e' h => by cases h; exact k) (fun e' h => by cases h) (fun d' e' h => by cases h) (fun x' e' h => by cases h)
      | ct e => exact fun k => main _ hR (by simp) (fun e' h => by cases h) (fun e' h => by cases h) (fun e' h => by cases h; exact k) (fun d' e' h => by cases h) (fun x' e' h => by cases h)
      | rt d e => exact fun k => main _ hR (by simp) (fun e' h => by cases h) (fun e' h => by cases h) (fun e' h => by cases h) (fun d' e' h => by cases h; exact k) (fun x' e' h => by cases h)
      | ex x e => exact fun k => main _ hR (by simp) (fun e' h => by cases h) (fun e' h => by cases h) (fun e' h => by cases h) (fun d' e' h => by cases h) (fun x' e' h => by cases h; exact k)
    intro R hR nR kn kb kc kr kx
    refine ei.ok r o h1 fun J Hs1 H1 A1 gv r1 o1 g1 => ?_
    obtain ⟨G, Y, wk, hG, hY⟩ := gv
    refine for_it wk (fun i σ' H' => ∃ env' Hs' A', ER K Hs' H' σ' env' A' ∧ Ok Hs' H' (F ++ A') ∧ Go Hs1 H1 A1 Hs' H' A' ∧ Pin P σ σ' ∧ forL f sm (ds.drop i) env' = R) ⟨env1, Hs1, A1, r1, o1, Go.refl, Pin.refl, hR⟩ ?_ ?_ ?_
    · rintro i σ' H' _ ⟨e, Hs', A', _, o', g', _, _⟩
      exact hG Hs' H' g'.hs o'.sub
    · rintro i x σ' H' H2 hi ⟨e, Hs', A', r', o', g', p', hf⟩ hy
      have hd : ds[i]? = some ds[i] := List.getElem?_eq_getElem hi
      obtain ⟨Hs2, g2, s2, rx⟩ := hY i ds[i] Hs' H' x H2 hd g'.hs o'.sub hy
      rw [List.drop_eq_getElem_cons hi, forL] at hf
      have r2 : ER K Hs2 H2 σ' e A' := r'.mono g2.hs fun a o _ h => g2.keep a o h (by simp)
      have o2 : Ok Hs2 H2 (F ++ A') := ⟨s2, o'.nd, fun a c => by
        rcases none_or (H := Hs2) a with q | ⟨w, q⟩
        · exact q
        · rcases g2.back a w q (o'.off a c) with q | q
          · simp at q
          · exact absurd q (o'.has a c), fun a c => by
        rcases none_or (H := H') a with q | ⟨w, q⟩
        · exact absurd q (o'.has a c)
        · rw [g2.keep a w q (by simp)]; simp⟩
      have g3 : Go Hs1 H1 A1 Hs2 H2 A' := g'.trans g2.with0
      cases hfd : f ds[i] e with
      | none => rw [hfd] at hf; exact absurd hf.symm nR
      | some e2 =>
        rw [hfd] at hf
        dsimp only at hf
        refine eg σ' e F Hs2 H2 A' x ds[i] [] e2 rx r2 (by simpa using o2) hfd _ fun σ3 A3 q1 q2 p3 => ?_
        have o3 : Ok Hs2 H2 (F ++ A3) := o2.less fun a => by have := q2 a; simp only [List.count_append, List.count_nil] at *; omega
        have g4 : Go Hs1 H1 A1 Hs2 H2 A3 := g3.less fun a c => by have := q2 a; simp only [List.count_nil] at *; omega
        have p4 : Pin P σ σ3 := p'.trans p3
        cases hb : sm e2 with
        | no => rw [hb] at hf; exact absurd hf.symm nR
        | nx e3 =>
          rw [hb] at hf
          exact eb.go q1 o3 _ hb fun σ4 Hs4 H4 A4 r4 o4 g5 p5 => ⟨e3, Hs4, A4, r4, o4, g4.trans g5, p4.trans p5, hf⟩
        | ct e3 =>
          rw [hb] at hf
          exact eb.go q1 o3 _ hb fun σ4 Hs4 H4 A4 r4 o4 g5 p5 => ⟨e3, Hs4, A4, r4, o4, g4.trans g5, p4.trans p5, hf⟩
        | bk e3 =>
          rw [hb] at hf
          exact eb.go q1 o3 _ hb fun σ4 Hs4 H4 A4 r4 o4 g5 p5 => kn e3 hf.symm σ4 Hs4 H4 A4 r4 o4 (g1.trans (g4.trans g5)) (p4.trans p5)
        | rt d e3 =>
          rw [hb] at hf
          exact eb.go q1 o3 _ hb fun v σ4 Hs4 H4 B4 A4 rv r4 o4 g5 p5 => kr d e3 hf.symm v σ4 Hs4 H4 B4 A4 rv r4 o4 (g1.trans (g4.trans g5)) (p4.trans p5)
        | ex x' e3 =>
          rw [hb] at hf
          exact eb.go q1 o3 _ hb ((kx x' e3 hf.symm).after (g1.trans g4) p4)
    · rintro σ' H' ⟨e, Hs', A', r', o', g', p', hf⟩
      rw [List.drop_eq_nil_of_le (Nat.le_refl _), forL] at hf
      exact kn e hf.symm σ' Hs' H' A' r' o' (g1.trans g') p'

/-! ### while -/
def whileN (b : Tst) (body : Stm) : Nat → Env → SR
  | 0, _ => .no
  | n + 1, env => match b env with
    | .no => .no
    | .ex x e => .ex x e
    | .ok p => if p.1 then (match body p.2 with
      | .nx e => whileN b body n e
      | .ct e => whileN b body n e
      | .bk e => .nx e
      | r => r) else .nx p.2
theorem whileN_up {b : Tst} {body : Stm} : ∀ {n : Nat} {env : Env} {R : SR}, whileN b body n env = R → R ≠ .no → whileN b body (n + 1) env = R
  | 0, env, R, h, n => absurd h.symm n
  | k + 1, env, R, h, n => by
    rw [whileN] at h ⊢
    cases hb : b env with
    | no => rw [hb] at h; exact h
    | ex x e => rw [hb] at h; exact h
    | ok p =>
      rw [hb] at h
      dsimp only at h ⊢
      split
      · rename_i hp
        rw [if_pos hp] at h
        cases hs : body p.2 with
        | nx e => rw [hs] at h; exact whileN_up h n
        | ct e => rw [hs] at h; exact whileN_up h n
        | _ => rw [hs] at h; exact h
      · rename_i hp
        rw [if_neg hp] at h; exact h
theorem whileN_le {b : Tst} {body : Stm} {n k : Nat} {env : Env} {R : SR} (h : whileN b body n env = R) (hn : R ≠ .no) (hk : n ≤ k) : whileN b body k env = R := by
  induction hk with
  | refl => exact h
  | step _ ih => exact whileN_up ih hn
open Classical in
noncomputable def sWhile (b : Tst) (body : Stm) : Stm := fun env => if h : ∃ n, whileN b body n env ≠ .no then whileN b body (choose h) env else .no
theorem sWhile_eq {b : Tst} {body : Stm} {n : Nat} {env : Env} {R : SR} (h : whileN b body n env = R) (hn : R ≠ .no) : sWhile b body env = R := by
  unfold sWhile
  have hx : ∃ n, whileN b body n env ≠ .no := ⟨n, by rw [h]; exact hn⟩
  rw [dif_pos hx]
  have h2 := Classical.choose_spec hx
  rcases Nat.le_total n (Classical.choose hx) with q | q
  · exact whileN_le h hn q
  · exact (whileN_le rfl h2 q).symm.trans h
theorem st_while (ec : EvB K W tt bm) (eb : StI K W P s sm) : StI K W P (tWhile tt s) (sWhile bm sm) := by
  intro σ env F Hs H A r o D
  by_cases hx : ∃ n, whileN bm sm n env ≠ .no
  · obtain ⟨n, hn⟩ := hx
    rw [sWhile_eq rfl hn]
    suffices main : ∀ R, whileN bm sm n env = R → R ≠ .no → (∀ e, R = .nx e → NxS K P σ F Hs H A D.nx e) → (∀ e, R = .bk e → NxS K P σ F Hs H A D.bk e) → (∀ e, R = .ct e → NxS K P σ F Hs H A D.ct e) →
        (∀ d e, R = .rt d e → RtS K P σ F Hs H A D.rt d e) → (∀ x e, R = .ex x e → ExS K W P σ F Hs H A x e) → tWhile tt s D σ H by
      cases hR : whileN bm sm n env with
      | no => trivial
      | nx e => exact fun k => main _ hR (by simp) (fun e' h => by cases h; exact k) (fun e' h => by cases h) (fun e' h => by cases h) (fun d' e' h => by cases h) (fun x' e' h => by cases h)
      | bk e => exact fun k => main _ hR (by simp) (fun e' h => by cases h) (fun e' h => by cases h; exact k) (fun e' h => by cases h) (fun d' e' h => by cases h) (fun x' e' h => by cases h)
      | ct e => exact fun k => main _ hR (by simp) (fun e' h => by cases h) (fun e' h => by cases h) (fun e' h => by cases h; exact k) (fun d' e' h => by cases h) (fun x' e' h => by cases h)
      | rt d e => exact fun k => main _ hR (by simp) (fun e' h => by cases h) (fun e' h => by cases h) (fun e' h => by cases h) (fun d' e' h => by cases h; exact k) (fun x' e' h => by cases h)
      | ex x e => exact fun k => main _ hR (by simp) (fun e' h => by cases h) (fun e' h => by cases h) (fun e' h => by cases h) (fun d' e' h => by cases h) (fun x' e' h => by cases h; exact k)
    intro R hR nR kn kb kc kr kx
    refine ⟨fun m σ' H' => ∃ env' Hs' A', ER K Hs' H' σ' env' A' ∧ Ok Hs' H' (F ++ A') ∧ Go Hs H A Hs' H' A' ∧ Pin P σ σ' ∧ whileN bm sm m env' = R, ⟨n, env, Hs, A, r, o, Go.refl, Pin.refl, hR⟩, ?_⟩
    rintro m σ' H' ⟨e, Hs', A', r', o', g', p', hf⟩
    cases m with
    | zero => exact absurd hf.symm nR
    | succ m =>
      rw [whileN] at hf
      cases hb : bm e with
      | no => rw [hb] at hf; exact absurd hf.symm nR
      | ex x e2 => rw [hb] at hf; exact ec.ex r' o' hb ((kx x e2 hf.symm).after g' p').exO _
      | ok q =>
        obtain ⟨c, e2⟩ := q
        rw [hb] at hf
        dsimp only at hf
        refine ec.ok r' o' hb fun Hs2 H2 A2 r2 o2 g2 => ?_
        cases c with
        | false => exact iteF (kn e2 (by simpa using hf.symm) σ' Hs2 H2 A2 r2 o2 (g'.trans g2) p')
        | true =>
          simp only [if_true] at hf
          refine iteT ⟨fun σ'' H'' => ∃ env' Hs' A', ER K Hs' H'' σ'' env' A' ∧ Ok Hs' H'' (F ++ A') ∧ Go Hs H A Hs' H'' A' ∧ Pin P σ σ'' ∧ whileN bm sm m env' = R, fun σ'' H'' h => ⟨m, Nat.lt_succ_self m, h⟩, ?_⟩
          have g3 := g'.trans g2
          cases hs : sm e2 with
          | no => rw [hs] at hf; exact absurd hf.symm nR
          | nx e3 => rw [hs] at hf; exact eb.go r2 o2 _ hs fun σ4 Hs4 H4 A4 r4 o4 g5 p5 => ⟨e3, Hs4, A4, r4, o4, g3.trans g5, p'.trans p5, hf⟩
          | ct e3 => rw [hs] at hf; exact eb.go r2 o2 _ hs fun σ4 Hs4 H4 A4 r4 o4 g5 p5 => ⟨e3, Hs4, A4, r4, o4, g3.trans g5, p'.trans p5, hf⟩
          | bk e3 => rw [hs] at hf; exact eb.go r2 o2 _ hs fun σ4 Hs4 H4 A4 r4 o4 g5 p5 => kn e3 hf.symm σ4 Hs4 H4 A4 r4 o4 (g3.trans g5) (p'.trans p5)
          | rt d e3 => rw [hs] at hf; exact eb.go r2 o2 _ hs fun v σ4 Hs4 H4 B4 A4 rv r4 o4 g5 p5 => kr d e3 hf.symm v σ4 Hs4 H4 B4 A4 rv r4 o4 (g3.trans g5) (p'.trans p5)
          | ex x' e3 => rw [hs] at hf; exact eb.go r2 o2 _ hs ((kx x' e3 hf.symm).after g3 p')
  · unfold sWhile
    rw [dif_neg hx]
    trivial

/-! ### a def -/
def fnM (n len : Nat) (io : Bool) (m : Stm) : Fn := fun ds => if ds.length = n then (match m (ds ++ List.replicate (len - n) .dead) with
  | .rt d e => .ok (d, if io then e.getD 0 .dead else .dead)
  | .nx e => .ok (.non, if io then e.getD 0 .dead else .dead)
  | .ex x e => .ex x e
  | _ => .no) else .no
theorem fnM_len {n len : Nat} {io : Bool} {m : Stm} (ds : List D) (q : D × D) (h : fnM n len io m ds = .ok q) : ds.length = n := by
  unfold fnM at h
  split at h
  · assumption
  · cases h
theorem er_start : ∀ {vs : List V} {ds : List D} {A : List Addr} (k : Nat), RL K Hs H vs ds A → ∃ A', ER K Hs H (vs.map some ++ List.replicate k none) (ds ++ List.replicate k .dead) A' ∧ ∀ a, A'.count a = A.count a
  | [], [], A, k, r => by
    cases r
    refine ⟨[], ?_, fun a => rfl⟩
    induction k with
    | zero => exact .nil
    | succ k ih => exact .dead ih
  | [], _ :: _, A, k, r => by cases r
  | _ :: _, [], A, k, r => by cases r
  | v :: vs, d :: ds, A, k, r => by
    obtain ⟨B, C, rfl, r1, r2⟩ := r.un
    obtain ⟨A', h1, h2⟩ := er_start k r2
    exact ⟨B ++ A', .cons r1 h1, fun a => by have := h2 a; simp only [List.count_append]; omega⟩
/-- the body's reading at the parameters' values gives what the promise asks -/
theorem fn_end {n len : Nat} {io : Bool} {m : Stm} {ts : TS} {N : List Str} (hN : N.length = len) (hn : 0 < n) (h : StI K W (if io then [0] else []) ts m) {vs : List V} {Q : VK} {E : XK} (sp : spI K n (fnM n len io m) vs H Q E) :
    ts { nx := fun _ H' => Q .non H', rt := Q } (L2.start N vs) H := by
  obtain ⟨hl, ds, Hs, F, A, p, rs, o, hm, k⟩ := sp
  unfold fnM at hm
  have hd : ds.length = n := by rw [← rs.length]; exact hl
  rw [if_pos hd] at hm
  obtain ⟨A', r0, hc⟩ := er_start (len - n) rs
  have hst : L2.start N vs = vs.map some ++ List.replicate (len - n) none := by unfold L2.start; rw [hN, hl]
  rw [hst]
  have o0 : Ok Hs H (F ++ A') := o.less fun a => by have := hc a; simp only [List.count_append]; omega
  have ggo : ∀ {Hs2 H2 : Hp} {C2 : List Addr}, Go Hs H A' Hs2 H2 C2 → Go Hs H A Hs2 H2 C2 := fun g => g.more fun a c => by have := hc a; omega
  obtain ⟨v0, vr, rfl⟩ : ∃ v0 vr, vs = v0 :: vr := by
    cases vs with
    | nil => simp at hl; omega
    | cons a b => exact ⟨a, b, rfl⟩
  have last : ∀ {σ2 : L2.St} {e : Env} {Hs2 H2 : Hp} {A2 : List Addr}, ER K Hs2 H2 σ2 e A2 → Pin (if io then [0] else []) ((v0 :: vr).map some ++ List.replicate (len - n) none) σ2 →
      ∃ C, RL K Hs2 H2 [v0] [if io then e.getD 0 .dead else .dead] C ∧ ∀ a, C.count a ≤ A2.count a := fun {σ2 e Hs2 H2 A2} r2 p2 => by
    cases io with
    | false => exact ⟨[], .dead .nil, fun a => by simp⟩
    | true =>
      have e0 : σ2[0]? = some (some v0) := by rw [p2 0 (by simp)]; rfl
      simp only [if_true]
      cases e with
      | nil => exact ⟨[], by simpa using RL.dead .nil, fun a => by simp⟩
      | cons d e =>
        show ∃ C, RL K Hs2 H2 [v0] [d] C ∧ _
        by_cases hd : d = .dead
        · subst hd; exact ⟨[], .dead .nil, fun a => by simp⟩
        · obtain ⟨v', B, A3, h1, h2, h3, h4⟩ := r2.at (i := 0) rfl hd
          rw [e0] at h1; cases h1
          exact ⟨B, h2, fun a => by have := h4 a; omega⟩
  cases hb : m (ds ++ List.replicate (len - n) .dead) with
  | rt d e =>
    rw [hb] at hm
    cases hm
    exact h.go r0 o0 _ hb fun v σ2 Hs2 H2 B2 A2 rv r2 o2 g2 p2 => by
      obtain ⟨C, c1, c2⟩ := last r2 p2
      exact k v Hs2 H2 B2 C rv c1 (o2.less fun a => by have := c2 a; simp only [List.count_append]; omega) (ggo (g2.less fun a c => by have := c2 a; simp only [List.count_append] at *; omega))
  | nx e =>
    rw [hb] at hm
    cases hm
    exact h.go r0 o0 _ hb fun σ2 Hs2 H2 A2 r2 o2 g2 p2 => by
      obtain ⟨C, c1, c2⟩ := last r2 p2
      exact k .non Hs2 H2 [] C (.sc rfl .nil) c1 (o2.less fun a => by have := c2 a; simp only [List.count_append, List.count_nil]; omega) (ggo (g2.less fun a c => by have := c2 a; simp only [List.count_append, List.count_nil] at *; omega))
  | no => rw [hb] at hm; cases hm
  | bk e => rw [hb] at hm; cases hm
  | ct e => rw [hb] at hm; cases hm
  | ex x e => rw [hb] at hm; cases hm
end
end Fl

/-! Fl: the text's syntax with its function of trees, rule by rule. -/
namespace Fl
open PySem PySem.Spec PyProof.Rows L2

def W0 : Wh := ⟨False, fun _ _ _ _ _ _ => False, fun _ _ _ _ => True⟩
def IE (X : Cx) (W : Wh) (e : Expr) (m : Exp) : Prop := ∃ t, PE X e t ∧ EvI X.K W t m
def IB (X : Cx) (W : Wh) (e : Expr) (m : Tst) : Prop := ∃ t, PT X e t ∧ EvB X.K W t m
def IW (X : Cx) (W : Wh) (e : Expr) (m : Tst) : Prop := ∃ t, PW X e t ∧ EvB X.K W t m
def IA (X : Cx) (W : Wh) (es : List Expr) (m : Arg) : Prop := ∃ t, PA X es t ∧ EvA X.K W t m
def IS (X : Cx) (W : Wh) (P : List Nat) (s : Stmt) (m : Stm) : Prop := ∃ t, PS X s t ∧ StI X.K W P t m
def ISs (X : Cx) (W : Wh) (P : List Nat) (s : List Stmt) (m : Stm) : Prop := ∃ t, PSs X s t ∧ StI X.K W P t m
def IG (X : Cx) (P : List Nat) (e : Expr) (f : Tgt) : Prop := ∃ g, PG X e g ∧ GI X.K P g f
def IGs (X : Cx) (P : List Nat) (e : List Expr) (f : Tgts) : Prop := ∃ g, PGs X e g ∧ GIs X.K P g f
def II (X : Cx) (W : Wh) (tg e : Expr) (m : Itm) : Prop := ∃ wi, PI X tg e wi ∧ ItI X.K W wi m

/-- a def of the text that does m, by its name -/
structure Has (P : Program) (w : World) (K : PySem.W.Frag) (mg : Str → Option Value) (base : Heap) (k : Nat) (x : Str) (n : Nat) (m : Fn) : Prop where
  len : ∀ ds q, m ds = .ok q → ds.length = n
  ex : ∃ f fd ps, FnOk P w K mg base CX0 k f fd ps (spI K n m) ∧ mg x = some (.ref f) ∧ PySem.W.keepIn K (.ref f) = true ∧ Binds K fd ps []

section
variable {X : Cx} {W : Wh} {P : List Nat} {a b c e : Expr} {es : List Expr} {ma mb m : Exp} {ms : Arg} {pos p : Pos} {x : Str} {bm bn : Tst}

/-! ### expressions -/
theorem ie_v (i : Nat) (hN : X.N[i]? = some x := by rfl) (hv : Vis X.env.scope x := by first | exact Or.inl rfl | exact Or.inr (Or.inl rfl) | exact Or.inr (Or.inr rfl)) (hd : (x == ("__debug__" : Str)) = false := by decide)
    (hcd : (x == ("__classdict__" : Str)) = false := by decide) : IE X W (.Name x pos) (eV i) := ⟨_, pe_var hN hv hd hcd, ev_v⟩
theorem ie_m (i : Nat) (hN : X.N[i]? = some x := by rfl) (hv : Vis X.env.scope x := by first | exact Or.inl rfl | exact Or.inr (Or.inl rfl) | exact Or.inr (Or.inr rfl)) (hd : (x == ("__debug__" : Str)) = false := by decide)
    (hcd : (x == ("__classdict__" : Str)) = false := by decide) : IE X W (.Name x pos) (eM i) := ⟨_, pe_var hN hv hd hcd, ev_m⟩
theorem ie_int {i : Int} {j} : IE X W (.Constant (.int i) j pos) (eC (.int i)) := ⟨_, pe_int, ev_c rfl⟩
theorem ie_bl {i : Bool} {j} : IE X W (.Constant (.bool i) j pos) (eC (.bl i)) := ⟨_, pe_bl, ev_c rfl⟩
theorem ie_non {j} : IE X W (.Constant .none j pos) (eC .non) := ⟨_, pe_non, ev_c rfl⟩
theorem ie_str {i : Str} {j} : IE X W (.Constant (.str i) j pos) (eC (.str i)) := ⟨_, pe_str, ev_c rfl⟩
theorem ie_add (ha : IE X W a ma) (hb : IE X W b mb) : IE X W (.BinOp a .Add b pos) (eBin addD ma mb) := let ⟨_, h1, h2⟩ := ha; let ⟨_, h3, h4⟩ := hb; ⟨_, pe_op (op_add.or (op_add_str.or op_cat)) h1 h3, ev_binN on_add h2 h4⟩
theorem ie_sub (ha : IE X W a ma) (hb : IE X W b mb) : IE X W (.BinOp a .Sub b pos) (eBin fSub ma mb) := let ⟨_, h1, h2⟩ := ha; let ⟨_, h3, h4⟩ := hb; ⟨_, pe_op op_sub h1 h3, ev_bin os_sub h2 h4⟩
theorem ie_mul (ha : IE X W a ma) (hb : IE X W b mb) : IE X W (.BinOp a .Mult b pos) (eBin mulD ma mb) := let ⟨_, h1, h2⟩ := ha; let ⟨_, h3, h4⟩ := hb; ⟨_, pe_op (op_mulW.or op_rep) h1 h3, ev_binN on_mul h2 h4⟩
theorem ie_neg (ha : IE X W a ma) : IE X W (.UnaryOp .USub a pos) (eUn fNeg ma) := let ⟨_, h1, h2⟩ := ha; ⟨_, pe_un un_neg h1, ev_un us_neg h2⟩
theorem ie_div (ha : IE X W a ma) (hb : IE X W b mb) : IE X W (.BinOp a .FloorDiv b pos) (eBin fDiv ma mb) := let ⟨_, h1, h2⟩ := ha; let ⟨_, h3, h4⟩ := hb; ⟨_, pe_op op_fdivG h1 h3, ev_bin os_div h2 h4⟩
theorem ie_mod (ha : IE X W a ma) (hb : IE X W b mb) : IE X W (.BinOp a .Mod b pos) (eBin fMod ma mb) := let ⟨_, h1, h2⟩ := ha; let ⟨_, h3, h4⟩ := hb; ⟨_, pe_op op_modN h1 h3, ev_bin os_mod h2 h4⟩
theorem ie_pow (ha : IE X W a ma) (hb : IE X W b mb) : IE X W (.BinOp a .Pow b pos) (eBin fPow ma mb) := let ⟨_, h1, h2⟩ := ha; let ⟨_, h3, h4⟩ := hb; ⟨_, pe_op op_pow h1 h3, ev_bin os_pow h2 h4⟩
theorem ie_lt (ha : IE X W a ma) (hb : IE X W b mb) : IE X W (.Compare a [.Lt] [b] pos) (eBin fLt ma mb) := let ⟨_, h1, h2⟩ := ha; let ⟨_, h3, h4⟩ := hb; ⟨_, pe_cmpR op_lt h1 h3 (nomark _), ev_bin os_lt h2 h4⟩
theorem ie_le (ha : IE X W a ma) (hb : IE X W b mb) : IE X W (.Compare a [.LtE] [b] pos) (eBin fLe ma mb) := let ⟨_, h1, h2⟩ := ha; let ⟨_, h3, h4⟩ := hb; ⟨_, pe_cmpR op_le h1 h3 (nomark _), ev_bin os_le h2 h4⟩
theorem ie_gt (ha : IE X W a ma) (hb : IE X W b mb) : IE X W (.Compare a [.Gt] [b] pos) (eBin fGt ma mb) := let ⟨_, h1, h2⟩ := ha; let ⟨_, h3, h4⟩ := hb; ⟨_, pe_cmpR op_gt h1 h3 (nomark _), ev_bin os_gt h2 h4⟩
theorem ie_ge (ha : IE X W a ma) (hb : IE X W b mb) : IE X W (.Compare a [.GtE] [b] pos) (eBin fGe ma mb) := let ⟨_, h1, h2⟩ := ha; let ⟨_, h3, h4⟩ := hb; ⟨_, pe_cmpR op_ge h1 h3 (nomark _), ev_bin os_ge h2 h4⟩
theorem ie_eq (hu : X.A.units + 64 < cLine) (ha : IE X W a ma) (hb : IE X W b mb) : IE X W (.Compare a [.Eq] [b] pos) (eBin fEq ma mb) := let ⟨_, h1, h2⟩ := ha; let ⟨_, h3, h4⟩ := hb; ⟨_, pe_cmpR ((op_eqD hu).or op_eq) h1 h3 (nomark _), ev_bin os_eq h2 h4⟩
theorem ie_ne (hu : X.A.units + 64 < cLine) (ha : IE X W a ma) (hb : IE X W b mb) : IE X W (.Compare a [.NotEq] [b] pos) (eBin fNe ma mb) := let ⟨_, h1, h2⟩ := ha; let ⟨_, h3, h4⟩ := hb; ⟨_, pe_cmpR ((op_neD hu).or op_ne) h1 h3 (nomark _), ev_bin os_ne h2 h4⟩
theorem ie_isN {j pos'} (ha : IE X W a ma) : IE X W (.Compare a [.Is] [.Constant .none j pos'] pos) (eNonB false ma) := let ⟨_, h1, h2⟩ := ha; ⟨_, pe_cmp (pc_isN h1) rfl, ev_isN h2⟩
theorem ie_notN {j pos'} (ha : IE X W a ma) : IE X W (.Compare a [.IsNot] [.Constant .none j pos'] pos) (eNonB true ma) := let ⟨_, h1, h2⟩ := ha; ⟨_, pe_cmp (pc_notN h1) rfl, ev_notN h2⟩
theorem ie_tup {k} (h : IA X W es ms) : IE X W (.Tuple es k pos) (eTup ms) := let ⟨_, h1, h2⟩ := h; ⟨_, pe_tup h1, ev_tup h2⟩
theorem ie_lst (h : IA X W es ms) : IE X W (.List es pos) (eLst ms) := let ⟨_, h1, h2⟩ := h; ⟨_, pe_lst h1, ev_lst h2⟩
theorem ie_ix (ha : IE X W a ma) (hb : IE X W b mb) (hs : PlainIx b := by exact fun _ _ => rfl) : IE X W (.Subscript a b pos) (eIx ma mb) := let ⟨_, h1, h2⟩ := ha; let ⟨_, h3, h4⟩ := hb; ⟨_, pe_ix ix_seq h1 h3 hs, ev_ix h2 h4⟩
theorem ie_ixV (i : Nat) (hb : IE X W b mb) (hs : PlainIx b := by exact fun _ _ => rfl) (hN : X.N[i]? = some x := by rfl) (hv : Vis X.env.scope x := by first | exact Or.inl rfl | exact Or.inr (Or.inl rfl) | exact Or.inr (Or.inr rfl)) (hd : (x == ("__debug__" : Str)) = false := by decide)
    (hcd : (x == ("__classdict__" : Str)) = false := by decide) : IE X W (.Subscript (.Name x p) b pos) (eIxV i mb) := let ⟨_, h3, h4⟩ := hb; ⟨_, pe_ix ix_seq (pe_var hN hv hd hcd) h3 hs, ev_ixV h4⟩
theorem ia_nil : IA X W [] aN := ⟨_, pa_nil, ea_nil⟩
theorem ia_cons (he : IE X W e m) (hs : IA X W es ms) (h : starEach (e :: es) X.env = (false, eval e X.env) :: starEach es X.env := by rfl) : IA X W (e :: es) (aC m ms) := let ⟨_, h1, h2⟩ := he; let ⟨_, h3, h4⟩ := hs; ⟨_, pa_cons h1 h3 h, ea_cons h2 h4⟩
theorem ie_call {k n : Nat} {f : Fn} (h : Has X.prog X.w X.K X.mg X.base k x n f) (hr : Room k X.A) (ha : IA X W (e :: es) ms) (hg : Gl X x := by rfl) (hdb : (x == ("__debug__" : Str)) = false := by decide)
    (he : starEach (e :: es) X.env = (false, eval e X.env) :: starEach es X.env := by rfl) (hpl : (backTo pos (starEach es X.env)).any (·.1) = false := by rfl) : IE X W (.Call (.Name x p) (e :: es) [] pos) (eCall f ms) := by
  obtain ⟨_, h1, h2⟩ := ha
  obtain ⟨g, fd, ps, G, hm, hk, hb⟩ := h.ex
  exact ⟨_, pe_call G hr hg hm hk hb .nil pass0 h1 hdb he hpl, ev_call h.len h2⟩
theorem ie_callX {y : Str} {py : Pos} {k n : Nat} {f : Fn} (i : Nat) (h : Has X.prog X.w X.K X.mg X.base k x n f) (hr : Room k X.A) (ha : IA X W es ms) (hN : X.N[i]? = some y := by rfl) (hv : Vis X.env.scope y := by first | exact Or.inl rfl | exact Or.inr (Or.inl rfl) | exact Or.inr (Or.inr rfl))
    (hg : Gl X x := by rfl) (hdb : (x == ("__debug__" : Str)) = false := by decide) (hd : (y == ("__debug__" : Str)) = false := by decide) (hcd : (y == ("__classdict__" : Str)) = false := by decide)
    (he : starEach (.Name y py :: es) X.env = (false, eval (.Name y py) X.env) :: starEach es X.env := by rfl) (hpl : (backTo pos (starEach es X.env)).any (·.1) = false := by rfl) : IE X W (.Call (.Name x p) (.Name y py :: es) [] pos) (eCallX f i ms) := by
  obtain ⟨_, h1, h2⟩ := ha
  obtain ⟨g, fd, ps, G, hm, hk, hb⟩ := h.ex
  exact ⟨_, pe_call G hr hg hm hk hb .nil pass0 (pa_cons (pe_var hN hv hd hcd) h1 he) hdb he hpl, ev_callX h.len h2⟩
theorem ie_len (hm : X.mg "len" = none) (ha : IE X W a m) (hg : Gl X "len" := by rfl) (he : starEach (a :: []) X.env = (false, eval a X.env) :: starEach [] X.env := by rfl) (hpl : (backTo pos (starEach [] X.env)).any (·.1) = false := by rfl) :
    IE X W (.Call (.Name "len" p) [a] [] pos) (eB gLen (aC m aN)) := let ⟨_, h1, h2⟩ := ha; ⟨_, pe_callB call_len hg hm PySem.boot_len (pa_cons h1 pa_nil he) (by decide) (by decide) he hpl, ev_b cs_len (ea_cons h2 ea_nil)⟩
theorem ie_lenV (i : Nat) (hm : X.mg "len" = none) (hN : X.N[i]? = some x := by rfl) (hv : Vis X.env.scope x := by first | exact Or.inl rfl | exact Or.inr (Or.inl rfl) | exact Or.inr (Or.inr rfl)) (hg : Gl X "len" := by rfl)
    (hd : (x == ("__debug__" : Str)) = false := by decide) (hcd : (x == ("__classdict__" : Str)) = false := by decide)
    (he : starEach (.Name x p :: []) X.env = (false, eval (.Name x p) X.env) :: starEach [] X.env := by rfl) (hpl : (backTo pos (starEach [] X.env)).any (·.1) = false := by rfl) {pl : Pos} :
    IE X W (.Call (.Name "len" pl) [.Name x p] [] pos) (eBV gLen i) := ⟨_, pe_callB call_len hg hm PySem.boot_len (pa_cons (pe_var hN hv hd hcd) pa_nil he) (by decide) (by decide) he hpl, ev_bV cs_len⟩
theorem ie_abs (hm : X.mg "abs" = none) (ha : IE X W a m) (hg : Gl X "abs" := by rfl) (he : starEach (a :: []) X.env = (false, eval a X.env) :: starEach [] X.env := by rfl) (hpl : (backTo pos (starEach [] X.env)).any (·.1) = false := by rfl) :
    IE X W (.Call (.Name "abs" p) [a] [] pos) (eB gAbs (aC m aN)) := let ⟨_, h1, h2⟩ := ha; ⟨_, pe_callB call_abs hg hm (by decide +kernel) (pa_cons h1 pa_nil he) (by decide) (by decide) he hpl, ev_b cs_abs (ea_cons h2 ea_nil)⟩
theorem ie_max (hc : X.calm = true) (hm : X.mg "max" = none) (ha : IE X W a ma) (hb : IE X W b mb) (hg : Gl X "max" := by rfl) (he : starEach [a, b] X.env = (false, eval a X.env) :: starEach [b] X.env := by rfl) (he2 : starEach [b] X.env = (false, eval b X.env) :: starEach [] X.env := by rfl)
    (hpl : (backTo pos (starEach [b] X.env)).any (·.1) = false := by rfl) : IE X W (.Call (.Name "max" p) [a, b] [] pos) (eB gMax (aC ma (aC mb aN))) :=
  let ⟨_, h1, h2⟩ := ha; let ⟨_, h3, h4⟩ := hb; ⟨_, pe_callB (call_max2 hc) hg hm (by decide +kernel) (pa_cons h1 (pa_cons h3 pa_nil he2) he) (by decide) (by decide) he hpl, ev_b cs_max (ea_cons h2 (ea_cons h4 ea_nil))⟩
theorem ie_min (hc : X.calm = true) (hm : X.mg "min" = none) (ha : IE X W a ma) (hb : IE X W b mb) (hg : Gl X "min" := by rfl) (he : starEach [a, b] X.env = (false, eval a X.env) :: starEach [b] X.env := by rfl) (he2 : starEach [b] X.env = (false, eval b X.env) :: starEach [] X.env := by rfl)
    (hpl : (backTo pos (starEach [b] X.env)).any (·.1) = false := by rfl) : IE X W (.Call (.Name "min" p) [a, b] [] pos) (eB gMin (aC ma (aC mb aN))) :=
  let ⟨_, h1, h2⟩ := ha; let ⟨_, h3, h4⟩ := hb; ⟨_, pe_callB (call_min2 hc) hg hm (by decide +kernel) (pa_cons h1 (pa_cons h3 pa_nil he2) he) (by decide) (by decide) he hpl, ev_b cs_min (ea_cons h2 (ea_cons h4 ea_nil))⟩
theorem ie_intc (hm : X.mg "int" = none) (ha : IE X W a m) (hg : Gl X "int" := by rfl) (he : starEach (a :: []) X.env = (false, eval a X.env) :: starEach [] X.env := by rfl) (hpl : (backTo pos (starEach [] X.env)).any (·.1) = false := by rfl) :
    IE X W (.Call (.Name "int" p) [a] [] pos) (eB gInt (aC m aN)) := let ⟨_, h1, h2⟩ := ha; ⟨_, pe_callTy call_int1 hg hm (by decide +kernel) (pa_cons h1 pa_nil he) (by decide) (by decide) he hpl, ev_b cs_int (ea_cons h2 ea_nil)⟩
theorem ie_isi {n : String} {nx : Str} {pn : Pos} (hn : n ∈ ["bool", "int", "str", "tuple", "list", "dict"]) (hb : bootBuiltins nx = some (.type n)) (hm : X.mg "isinstance" = none) (hmn : X.mg nx = none) (ha : IE X W a m) (hg : Gl X "isinstance" := by rfl) (hgn : Gl X nx := by rfl)
    (hnn : nx ≠ "__name__" := by decide) (hdb : (nx == ("__debug__" : Str)) = false := by decide)
    (he : starEach [a, .Name nx pn] X.env = (false, eval a X.env) :: starEach [.Name nx pn] X.env := by rfl) (he2 : starEach [.Name nx pn] X.env = (false, eval (.Name nx pn) X.env) :: starEach [] X.env := by rfl) (hpl : (backTo pos (starEach [.Name nx pn] X.env)).any (·.1) = false := by rfl) :
    IE X W (.Call (.Name "isinstance" p) [a, .Name nx pn] [] pos) (eIsi n m) :=
  let ⟨_, h1, h2⟩ := ha; ⟨_, pe_callB call_isi hg hm (by decide +kernel) (pa_cons h1 (pa_cons (pe_bltn (v := .ty n) hgn hmn hb rfl hnn hdb) pa_nil he2) he) (by decide) (by decide) he hpl, ev_isi hn h2⟩
theorem ie_isiV {n : String} {nx : Str} {pn : Pos} {px : Pos} (i : Nat) (hn : n ∈ ["bool", "int", "str", "tuple", "list", "dict"]) (hb : bootBuiltins nx = some (.type n)) (hm : X.mg "isinstance" = none) (hmn : X.mg nx = none) (hN : X.N[i]? = some x := by rfl)
    (hv : Vis X.env.scope x := by first | exact Or.inl rfl | exact Or.inr (Or.inl rfl) | exact Or.inr (Or.inr rfl)) (hg : Gl X "isinstance" := by rfl) (hgn : Gl X nx := by rfl)
    (hnn : nx ≠ "__name__" := by decide) (hdb : (nx == ("__debug__" : Str)) = false := by decide) (hd : (x == ("__debug__" : Str)) = false := by decide) (hcd : (x == ("__classdict__" : Str)) = false := by decide)
    (he : starEach [.Name x px, .Name nx pn] X.env = (false, eval (.Name x px) X.env) :: starEach [.Name nx pn] X.env := by rfl) (he2 : starEach [.Name nx pn] X.env = (false, eval (.Name nx pn) X.env) :: starEach [] X.env := by rfl) (hpl : (backTo pos (starEach [.Name nx pn] X.env)).any (·.1) = false := by rfl) :
    IE X W (.Call (.Name "isinstance" p) [.Name x px, .Name nx pn] [] pos) (eIsiV n i) :=
  ⟨_, pe_callB call_isi hg hm (by decide +kernel) (pa_cons (pe_var hN hv hd hcd) (pa_cons (pe_bltn (v := .ty n) hgn hmn hb rfl hnn hdb) pa_nil he2) he) (by decide) (by decide) he hpl, ev_isiV hn⟩
theorem ie_not (ha : IE X W a ma) : IE X W (.UnaryOp .Not a pos) (eNot ma) := let ⟨_, h1, h2⟩ := ha; ⟨_, pe_not h1, ev_not h2⟩
theorem ie_one {op} (ha : IE X W a ma) : IE X W (.BoolOp op [a] pos) ma := let ⟨_, h1, h2⟩ := ha; ⟨_, pe_one h1, h2⟩
theorem ie_and (ha : IE X W a ma) (hb : IE X W (.BoolOp .And (b :: es) pos) mb) : IE X W (.BoolOp .And (a :: b :: es) pos) (eAnd ma mb) := let ⟨_, h1, h2⟩ := ha; let ⟨_, h3, h4⟩ := hb; ⟨_, pe_and h1 h3, ev_and h2 h4⟩
theorem ie_or (ha : IE X W a ma) (hb : IE X W (.BoolOp .Or (b :: es) pos) mb) : IE X W (.BoolOp .Or (a :: b :: es) pos) (eOr ma mb) := let ⟨_, h1, h2⟩ := ha; let ⟨_, h3, h4⟩ := hb; ⟨_, pe_or h1 h3, ev_or h2 h4⟩
theorem ie_if (hc : IB X W c bm) (ha : IE X W a ma) (hb : IE X W b mb) : IE X W (.IfExp c a b pos) (eIf bm ma mb) := let ⟨_, h5, h6⟩ := hc; let ⟨_, h1, h2⟩ := ha; let ⟨_, h3, h4⟩ := hb; ⟨_, pe_ifExp h5 h1 h3, ev_if h6 h2 h4⟩
/-- a constant of the module -/
theorem ie_glob {v : V} {u : Value} {d : D} (hm : X.mg x = some u) (r : RelV v u) (hd : ∀ Hs H, RL X.K Hs H [v] [d] []) (hg : Gl X x := by rfl) (hdb : (x == ("__debug__" : Str)) = false := by decide) : IE X W (.Name x pos) (eC d) :=
  ⟨_, pe_glob hg hm r hdb, fun σ env F Hs H A r o Q k => k v Hs H [] A (hd Hs H) r (by simpa using o) (by simpa using Go.refl)⟩

/-! ### tests -/
theorem ib_val (ha : IE X W a ma) (he : ∀ whole, isTrue a X.env whole = (do let v ← whole; standAt a.pos; holding [v] (truthy v)) := by intro _; rfl) : IB X W a (bOf ma) := let ⟨_, h1, h2⟩ := ha; ⟨_, pt_val h1 he, eb_B h2⟩
theorem ib_lt (ha : IE X W a ma) (hb : IE X W b mb) : IB X W (.Compare a [.Lt] [b] pos) (bOf (eBin fLt ma mb)) := let ⟨_, h1, h2⟩ := ha; let ⟨_, h3, h4⟩ := hb; ⟨_, pt_cmpR op_lt h1 h3 (nomark _), eb_test (ev_bin os_lt h2 h4)⟩
theorem ib_le (ha : IE X W a ma) (hb : IE X W b mb) : IB X W (.Compare a [.LtE] [b] pos) (bOf (eBin fLe ma mb)) := let ⟨_, h1, h2⟩ := ha; let ⟨_, h3, h4⟩ := hb; ⟨_, pt_cmpR op_le h1 h3 (nomark _), eb_test (ev_bin os_le h2 h4)⟩
theorem ib_gt (ha : IE X W a ma) (hb : IE X W b mb) : IB X W (.Compare a [.Gt] [b] pos) (bOf (eBin fGt ma mb)) := let ⟨_, h1, h2⟩ := ha; let ⟨_, h3, h4⟩ := hb; ⟨_, pt_cmpR op_gt h1 h3 (nomark _), eb_test (ev_bin os_gt h2 h4)⟩
theorem ib_ge (ha : IE X W a ma) (hb : IE X W b mb) : IB X W (.Compare a [.GtE] [b] pos) (bOf (eBin fGe ma mb)) := let ⟨_, h1, h2⟩ := ha; let ⟨_, h3, h4⟩ := hb; ⟨_, pt_cmpR op_ge h1 h3 (nomark _), eb_test (ev_bin os_ge h2 h4)⟩
theorem ib_eq (hu : X.A.units + 64 < cLine) (ha : IE X W a ma) (hb : IE X W b mb) : IB X W (.Compare a [.Eq] [b] pos) (bOf (eBin fEq ma mb)) := let ⟨_, h1, h2⟩ := ha; let ⟨_, h3, h4⟩ := hb; ⟨_, pt_cmpR ((op_eqD hu).or op_eq) h1 h3 (nomark _), eb_test (ev_bin os_eq h2 h4)⟩
theorem ib_ne (hu : X.A.units + 64 < cLine) (ha : IE X W a ma) (hb : IE X W b mb) : IB X W (.Compare a [.NotEq] [b] pos) (bOf (eBin fNe ma mb)) := let ⟨_, h1, h2⟩ := ha; let ⟨_, h3, h4⟩ := hb; ⟨_, pt_cmpR ((op_neD hu).or op_ne) h1 h3 (nomark _), eb_test (ev_bin os_ne h2 h4)⟩
theorem ib_isN {j pos'} (ha : IE X W a ma) : IB X W (.Compare a [.Is] [.Constant .none j pos'] pos) (bOf (eNonB false ma)) := let ⟨_, h1, h2⟩ := ha; ⟨_, pt_cmp (pc_isN h1) rfl, eb_B (ev_isN h2)⟩
theorem ib_notN {j pos'} (ha : IE X W a ma) : IB X W (.Compare a [.IsNot] [.Constant .none j pos'] pos) (bOf (eNonB true ma)) := let ⟨_, h1, h2⟩ := ha; ⟨_, pt_cmp (pc_notN h1) rfl, eb_B (ev_notN h2)⟩
theorem ib_not (ha : IB X W a bm) : IB X W (.UnaryOp .Not a pos) (bNot bm) := let ⟨_, h1, h2⟩ := ha; ⟨_, pt_not h1, eb_not h2⟩
theorem ib_w (h : IW X W a bm) : IB X W a bm := let ⟨_, h1, h2⟩ := h; ⟨_, h1.pt, h2⟩
theorem iw_and1 (ha : IB X W a bm) : IW X W (.BoolOp .And [a] pos) bm := let ⟨_, h1, h2⟩ := ha; ⟨_, pw_and1 h1, h2⟩
theorem iw_or1 (ha : IB X W a bm) : IW X W (.BoolOp .Or [a] pos) bm := let ⟨_, h1, h2⟩ := ha; ⟨_, pw_or1 h1, h2⟩
theorem iw_and (ha : IB X W a bm) (hb : IW X W (.BoolOp .And (b :: es) pos) bn) : IW X W (.BoolOp .And (a :: b :: es) pos) (bAnd bm bn) := let ⟨_, h1, h2⟩ := ha; let ⟨_, h3, h4⟩ := hb; ⟨_, pw_and h1 h3, eb_and h2 h4⟩
theorem iw_or (ha : IB X W a bm) (hb : IW X W (.BoolOp .Or (b :: es) pos) bn) : IW X W (.BoolOp .Or (a :: b :: es) pos) (bOr bm bn) := let ⟨_, h1, h2⟩ := ha; let ⟨_, h3, h4⟩ := hb; ⟨_, pw_or h1 h3, eb_or h2 h4⟩

/-! ### targets, what is walked -/
theorem ig_name (i : Nat) (hN : X.N.Nodup) (hP : i ∉ P := by decide) (hi : X.N[i]? = some x := by rfl) (hx : Loc X.env.scope x := by first | exact Or.inl rfl | exact Or.inr rfl) (hf : X.fn x = true ∨ X.env.scope.names.lookup x = some .local := by first | exact .inl rfl | exact .inr rfl | assumption) :
    IG X P (.Name x pos) (gN i) := ⟨_, pg_name hN hi hx hf, gi_name hP⟩
theorem igs_nil : IGs X P [] gsN := ⟨_, pgs_nil, gis_nil⟩
theorem igs_cons {f : Tgt} {fs : Tgts} (h : IG X P e f) (hs : IGs X P es fs) (h' : (assignEach (e :: es) X.env).map (·.2) = assign e X.env :: (assignEach es X.env).map (·.2) := by rfl) : IGs X P (e :: es) (gsC f fs) := let ⟨_, h1, h2⟩ := h; let ⟨_, h3, h4⟩ := hs; ⟨_, pgs_cons h1 h3 h', gis_cons h2 h4⟩
theorem ig_tup {k : Nat} {n : Nat} {fs : Tgts} (hc : X.calm = true) (h : IGs X P es fs) (hn : (assignEach es X.env).length = n := by rfl) (hst : (assignEach es X.env).findIdx? (·.1) = none := by rfl) : IG X P (.Tuple es k pos) (gT n fs) := let ⟨_, h1, h2⟩ := h; ⟨_, pg_tup hc h1 hn hst, gi_tup h2⟩
variable {tg : Expr}
theorem ii_R1 (hm : X.mg "range" = none) (ha : IA X W [a] ms) (hg : Gl X "range" := by rfl) (hs : starEach [a] X.env = [(false, eval a X.env)] := by rfl) : II X W tg (.Call (.Name "range" p) [a] [] pos) (iR1 ms) := let ⟨_, h1, h2⟩ := ha; ⟨_, pi_range1 hg hm h1 hs, it_R1 h2⟩
theorem ii_R2 (hm : X.mg "range" = none) (ha : IA X W [a, b] ms) (hg : Gl X "range" := by rfl) (hs : starEach [a, b] X.env = [(false, eval a X.env), (false, eval b X.env)] := by rfl) (hs2 : starEach [b] X.env = [(false, eval b X.env)] := by rfl) : II X W tg (.Call (.Name "range" p) [a, b] [] pos) (iR2 ms) := let ⟨_, h1, h2⟩ := ha; ⟨_, pi_range2 hg hm h1 hs hs2, it_R2 h2⟩
theorem ii_L (ha : IE X W a ma) : II X W tg a (iL ma) := let ⟨_, h1, h2⟩ := ha; ⟨_, pi_list h1, it_L h2⟩
theorem ii_T (ha : IE X W a ma) : II X W tg a (iT ma) := let ⟨_, h1, h2⟩ := ha; ⟨_, pi_tup h1, it_T h2⟩

/-! ### statements -/
variable {s : Stmt} {ss sa sb : List Stmt} {sm um : Stm}
theorem iss_nil : ISs X W P [] sPass := ⟨_, pss_nil, st_pass⟩
theorem iss_one (h : IS X W P s sm) : ISs X W P [s] sm := let ⟨_, h1, h2⟩ := h; ⟨_, pss_one h1, h2⟩
theorem iss_cons (h : IS X W P s sm) (hs : ISs X W P ss um) : ISs X W P (s :: ss) (sSeq sm um) := let ⟨_, h1, h2⟩ := h; let ⟨_, h3, h4⟩ := hs; ⟨_, pss_cons h1 h3, st_seq h2 h4⟩
theorem is_pass : IS X W P (.Pass pos) sPass := ⟨_, ps_pass, st_pass⟩
theorem is_break : IS X W P (.Break pos) sBreak := ⟨_, ps_break, st_break⟩
theorem is_cont : IS X W P (.Continue pos) sCont := ⟨_, ps_continue, st_cont⟩
theorem is_never : IS X W P s sNever := ⟨_, ps_never, st_never⟩
theorem is_raise0 {c : Str} : IS X W0 P s (sRaise c ms) := ⟨_, ps_never, st_raise0 id⟩
theorem is_ret (ha : IE X W a m) : IS X W P (.Return (some a) pos) (sRet m) := let ⟨_, h1, h2⟩ := ha; ⟨_, ps_ret h1, st_ret h2⟩
theorem is_retN : IS X W P (.Return none pos) sRetN := ⟨_, ps_retN, st_retN⟩
theorem is_if (hc : IB X W c bm) (ha : ISs X W P sa sm) (hb : ISs X W P sb um) : IS X W P (.If c sa sb pos) (sIf bm sm um) := let ⟨_, h5, h6⟩ := hc; let ⟨_, h1, h2⟩ := ha; let ⟨_, h3, h4⟩ := hb; ⟨_, ps_if h5 h1 h3, st_if h6 h2 h4⟩
theorem is_set {pos' : Pos} (i : Nat) (hN : X.N.Nodup) (ha : IE X W a m) (hP : i ∉ P := by decide) (hi : X.N[i]? = some x := by rfl) (hx : Loc X.env.scope x := by first | exact Or.inl rfl | exact Or.inr rfl) (hs : swapsWith a (some (.Name x pos')) pos.line X.env = pure false := by rfl)
    (hf : X.fn x = true ∨ X.env.scope.names.lookup x = some .local := by first | exact .inl rfl | exact .inr rfl | assumption) : IS X W P (.Assign [.Name x pos'] a pos) (sAsg m (gN i)) := let ⟨_, h1, h2⟩ := ha; ⟨_, ps_set hN hi hx h1 hs hf, st_asg h2 (gi_name hP)⟩
theorem is_asg {f : Tgt} (ha : IE X W a m) (hg : IG X P tg f) (hs : swapsWithSole [tg] a pos.line X.env = pure false := by rfl) (hw : swappedStores [tg] a X.env = pure none := by rfl)
    (h1 : (assignEach [tg] X.env).map (·.2) = [assign tg X.env] := by rfl) : IS X W P (.Assign [tg] a pos) (sAsg m f) := let ⟨_, h3, h2⟩ := ha; let ⟨_, h5, h4⟩ := hg; ⟨_, ps_asg h3 h5 hs hw h1, st_asg h2 h4⟩
theorem is_par {y : Str} {px py pt : Pos} {kt k2 : Nat} {pt2 : Pos} (i j : Nat) (hc : X.calm = true) (hN : X.N.Nodup) (ha : IA X W [a, b] ms) (hi' : i ∉ P := by decide) (hj' : j ∉ P := by decide) (hi : X.N[i]? = some x := by rfl) (hj : X.N[j]? = some y := by rfl) (hij : i ≠ j := by decide)
    (hx : X.env.scope.names.lookup x = some .local := by rfl) (hy : X.env.scope.names.lookup y = some .local := by rfl)
    (hw : swappedStores [.Tuple [.Name x px, .Name y py] kt pt] (.Tuple [a, b] k2 pt2) X.env = pure (some [x, y]) := by rfl)
    (hs : swapsWithSole [.Tuple [.Name x px, .Name y py] kt pt] (.Tuple [a, b] k2 pt2) pos.line X.env = pure false := by rfl) :
    IS X W P (.Assign [.Tuple [.Name x px, .Name y py] kt pt] (.Tuple [a, b] k2 pt2) pos) (sPar i j ms) := let ⟨_, h1, h2⟩ := ha; ⟨_, ps_par hc hN hi hj hij hx hy h1 hw hs, st_par hi' hj' h2⟩
theorem is_setIx {pos' p2 : Pos} (i : Nat) (ha : IE X W a m) (hb : IE X W b mb) (hN : X.N[i]? = some x := by rfl) (hv : Vis X.env.scope x := by first | exact Or.inl rfl | exact Or.inr (Or.inl rfl) | exact Or.inr (Or.inr rfl))
    (hd : (x == ("__debug__" : Str)) = false := by decide) (hcd : (x == ("__classdict__" : Str)) = false := by decide)
    (hs : swapsWithSole [.Subscript (.Name x p2) b pos'] a pos.line X.env = pure false := by rfl) (hw : swappedStores [.Subscript (.Name x p2) b pos'] a X.env = pure none := by rfl)
    (h1 : (assignEach [.Subscript (.Name x p2) b pos'] X.env).map (·.2) = [assign (.Subscript (.Name x p2) b pos') X.env] := by rfl)
    (hsub : ∀ v, assign (.Subscript (.Name x p2) b pos') X.env v = (do
      let ov ← holding [v] (eval (.Name x p2) X.env)
      let iv ← holding [v, ov] (eval b X.env)
      standAt pos'
      holding [v, ov, iv] (setItem ov iv v)
      release [v, ov, iv] []) := by intro _; rfl) :
    IS X W P (.Assign [.Subscript (.Name x p2) b pos'] a pos) (sSetIx i m mb) := let ⟨_, h3, h2⟩ := ha; let ⟨_, h5, h4⟩ := hb; ⟨_, ps_asg h3 (pg_sub (pe_var hN hv hd hcd) h5 set_list hsub) hs hw h1, st_setIx h2 h4⟩
theorem is_for {iter : Expr} {mi : Itm} {f : Tgt} (hp : PassesOwn (model X.prog X.w) X.A X.env X.xe) (hc : X.calm = true) (hi : II X W tg iter mi) (hg : IG X P tg f) (hb : ISs X W P ss sm) (hs : ∀ x, foldedSetIterable iter X.env x = pure x := by intro _; rfl) :
    IS X W P (.For tg iter ss [] pos) (sFor mi f sm) := let ⟨_, h1, h2⟩ := hi; let ⟨_, h3, h4⟩ := hg; let ⟨_, h5, h6⟩ := hb; ⟨_, ps_for hp hc h1 h3 h5 hs, st_for h2 h4 h6⟩
theorem is_while (hp : PassesOwn (model X.prog X.w) X.A X.env X.xe) (hc : IB X W c bm) (hb : ISs X W P ss sm) : IS X W P (.While c ss [] pos) (sWhile bm sm) := let ⟨_, h1, h2⟩ := hc; let ⟨_, h5, h6⟩ := hb; ⟨_, ps_while hp h1 h5, st_while h2 h6⟩
theorem is_expr (ha : IE X W a m) (hs : swapsWith a none pos.line X.env = pure false := by rfl) : IS X W P (.Expr a pos) (sExpr m) := let ⟨_, h1, h2⟩ := ha; ⟨_, ps_expr h1 hs, st_expr h2⟩
theorem is_app {p1 p2 p3 p4 : Pos} (i : Nat) (ha : IE X W a m) (hN : X.N[i]? = some x := by rfl) (hv : Vis X.env.scope x := by first | exact Or.inl rfl | exact Or.inr (Or.inl rfl) | exact Or.inr (Or.inr rfl))
    (hd : (x == ("__debug__" : Str)) = false := by decide) (hcd : (x == ("__classdict__" : Str)) = false := by decide)
    (hbase : attributeBase (.Name x p1) "append" X.env (eval (.Name x p1) X.env) = eval (.Name x p1) X.env := by rfl)
    (hfew : ((backTo p3 (starEach (a :: []) X.env)).all (fun x => !x.1) && (backToKw p3 (keywordEach [] X.env)).all (fun x => x.1.isSome)
      && decide ((a :: []).length + ([] : List Keyword).length + (if ([] : List Keyword).isEmpty then 0 else 1) < 30)) = true := by rfl)
    (hline : (p2.endLine == p3.line) = true := by rfl) (hs : starEach (a :: []) X.env = (false, eval a X.env) :: starEach [] X.env := by rfl) (hplain : (backTo p3 (starEach [] X.env)).any (·.1) = false := by rfl)
    (hsw : swapsWith (.Call (.Attribute (.Name x p1) "append" p2) [a] [] p3) none p4.line X.env = pure false := by rfl) :
    IS X W P (.Expr (.Call (.Attribute (.Name x p1) "append" p2) [a] [] p3) p4) (sApp i m) := let ⟨_, h1, h2⟩ := ha;
  ⟨_, ps_expr (pe_bm PySem.F.plainAttrs_list PySem.F.slot_list_append PySem.F.type_list_append mt_append (pe_var hN hv hd hcd) (pa_cons h1 pa_nil hs) hbase hfew hline hs hplain) hsw, st_app h2⟩
end

/-! ### defs -/
section
variable {Pg : Program} {w : World} {K : PySem.W.Frag} {mg : Str → Option Value} {base : Heap}
theorem fn_def {x qual : Str} {st : Stmt} {f : Addr} {fd : FuncData} {N ps : List Str} {k n : Nat} {io : Bool} {m : Stm} (F : Fun K x qual st f fd) (S : FnScope N ps (defScope st)) (hn : ps.length = n) (h0 : 0 < n)
    (body : ∀ (cdv : Value) (A : Around) (outer : List PySem.Env) (s : Shared) (H : Hp) (E : XK), Room k (A.deeper (envOfC qual (defScope st) s.heap.objs.size f cdv)) →
      ISs (cxOf CX0 Pg w K mg base N qual (defScope st) f cdv A outer s H E).nox W0 (if io then [0] else []) (defBody st) m) :
    FnOk Pg w K mg base CX0 (k + 1) f fd ps (spI K n (fnM n N.length io m)) := by
  refine F.ok S (fun vs H Q E h => by rw [hn]; exact h.1) (fun cdv A outer s H vs Q E hr h => ?_)
  obtain ⟨t, h1, h2⟩ := body cdv A outer s H E hr
  exact ⟨t, h1, fn_end rfl h0 h2 h⟩
theorem has_of {x qual : Str} {st : Stmt} {f : Addr} {fd : FuncData} {ps : List Str} {k n : Nat} {m : Fn} (F : Fun K x qual st f fd) (hl : ∀ ds q, m ds = .ok q → ds.length = n) (h : FnOk Pg w K mg base CX0 k f fd ps (spI K n m)) (hm : mg x = some (.ref f)) (b : Binds K fd ps []) :
    Has Pg w K mg base k x n m := ⟨hl, f, fd, ps, h, hm, F.kp, b⟩
theorem rl_ints {Hs H : Hp} : ∀ ns : List Int, RL K Hs H (ns.map V.int) (ns.map D.int) []
  | [] => .nil
  | n :: ns => .sc rfl (rl_ints ns)
theorem law_sp {H : Hp} {a : Addr} {ns : List Int} {m : Fn} {E : XK} (hS : SqL K H a (ns.map V.int)) (h : ∃ d0, m [.frz (ns.map .int)] = .ok (.bl true, d0)) : spI K 1 m [.ref a] H (fun v _ => v = .bl true) E := by
  obtain ⟨d0, h⟩ := h
  refine ⟨rfl, [.frz (ns.map .int)], H, [], [], (.bl true, d0), .frz hS (rl_ints ns) .nil, ⟨fun _ _ h => h, fun a => by simp, fun a c => by simp at c, fun a c => by simp at c⟩, h, fun v Hs' H' B C rv _ _ _ => rv.bl⟩
end
end Fl

/-! Fl: the functions of trees, reckoned by simp. -/
namespace Fl
open PySem
section
variable {env : Env} {d : D} {i j : Nat} {m ma mb mc : Exp} {ms : Arg} {f : D → D → Option D} {g : List D → Option D} {fn : Fn} {b c : Tst} {s u : Stm}
@[simp] theorem eC_app : eC d env = .ok (d, env) := rfl
@[simp] theorem eV_app : eV i env = (match env[i]? with | some d => if isDead d then .no else if own d then .ok (sh d, env.set i (sh d)) else .ok (d, env) | none => .no) := rfl
@[simp] theorem eM_app : eM i env = (match env[i]? with | some d => if isDead d then .no else .ok (d, env.set i .dead) | none => .no) := rfl
@[simp] theorem eBin_app : eBin f ma mb env = (ma env).bind fun p => (mb p.2).bind fun q => match f p.1 q.1 with | some d => .ok (d, q.2) | none => .no := rfl
@[simp] theorem eUn_app {f : D → Option D} : eUn f ma env = (ma env).bind fun p => match f p.1 with | some d => .ok (d, p.2) | none => .no := rfl
@[simp] theorem aN_app : aN env = .ok ([], env) := rfl
@[simp] theorem aC_app : aC m ms env = (m env).bind fun p => (ms p.2).bind fun q => .ok (p.1 :: q.1, q.2) := rfl
@[simp] theorem eTup_app : eTup ms env = (ms env).bind fun p => if p.1.length ≤ 100000 then .ok (.tup p.1, p.2) else .no := rfl
@[simp] theorem eLst_app : eLst ms env = (ms env).bind fun p => if p.1.length ≤ 100000 then .ok (.lst true p.1, p.2) else .no := rfl
@[simp] theorem eIx_app : eIx ma mb env = (ma env).bind fun p => (mb p.2).bind fun q => match q.1 with | .int i => (match ixD p.1 i with | some d => .ok (d, q.2) | none => .no) | _ => .no := rfl
@[simp] theorem eIxV_app : eIxV i mb env = if live env i then (mb env).bind fun q => (match q.1, q.2[i]? with
  | .int j, some c => (match ixD c j with | some d => if own d then .ok (sh d, q.2.set i (sh c)) else .ok (d, q.2) | none => .no)
  | _, _ => .no) else .no := rfl
@[simp] theorem eCall_app : eCall fn ms env = (ms env).bind fun p => match fn p.1 with | .ok q => .ok (q.1, p.2) | _ => .no := rfl
@[simp] theorem eCallX_app : eCallX fn i ms env = if live env i then (ms env).bind fun p => (match p.2[i]? with
  | some c => if isDead c then .no else (match fn (c :: p.1) with | .ok q => .ok (q.1, p.2.set i q.2) | _ => .no)
  | none => .no) else .no := rfl
@[simp] theorem eB_app : eB g ms env = (ms env).bind fun p => match g p.1 with | some d => .ok (d, p.2) | none => .no := rfl
@[simp] theorem eBV_app : eBV g i env = (match env[i]? with | some c => if isDead c then .no else (match g [c] with | some d => .ok (d, env) | none => .no) | none => .no) := rfl
@[simp] theorem eIsi_app {n : String} : eIsi n ma env = (ma env).bind fun p => match isiD n [p.1] with | some d => .ok (d, p.2) | none => .no := rfl
@[simp] theorem eIsiV_app {n : String} : eIsiV n i env = eBV (isiD n) i env := rfl
@[simp] theorem eNonB_app {n : Bool} : eNonB n ma env = (ma env).bind fun p => match isNon p.1 with | some b => .ok (.bl (if n then !b else b), p.2) | none => .no := rfl
@[simp] theorem eNot_app : eNot ma env = (ma env).bind fun p => match (match p.1 with | .bl b => some (.bl (!b)) | _ => none) with | some d => .ok (d, p.2) | none => .no := rfl
@[simp] theorem eAnd_app : eAnd ma mb env = (ma env).bind fun p => match p.1 with | .bl b => if b then mb p.2 else .ok (.bl false, p.2) | _ => .no := rfl
@[simp] theorem eOr_app : eOr ma mb env = (ma env).bind fun p => match p.1 with | .bl b => if b then .ok (.bl true, p.2) else mb p.2 | _ => .no := rfl
@[simp] theorem eIf_app : eIf b ma mb env = (b env).bind fun p => if p.1 then ma p.2 else mb p.2 := rfl
@[simp] theorem bOf_app : bOf m env = (m env).bind fun p => match p.1 with | .bl b => .ok (b, p.2) | _ => .no := rfl
@[simp] theorem bNot_app : bNot b env = (b env).bind fun p => .ok (!p.1, p.2) := rfl
@[simp] theorem bAnd_app : bAnd b c env = (b env).bind fun p => if p.1 then c p.2 else .ok (false, p.2) := rfl
@[simp] theorem bOr_app : bOr b c env = (b env).bind fun p => if p.1 then .ok (true, p.2) else c p.2 := rfl
@[simp] theorem sPass_app : sPass env = .nx env := rfl
@[simp] theorem sSeq_app : sSeq s u env = (match s env with | .nx e => u e | r => r) := rfl
@[simp] theorem sRaise_app {c : Str} : sRaise c ms env = (match ms env with | .ok p => .ex (.exo c p.1) p.2 | .no => .no | .ex x e => .ex x e) := rfl
@[simp] theorem sRet_app : sRet m env = (match m env with | .ok p => .rt p.1 p.2 | .no => .no | .ex x e => .ex x e) := rfl
@[simp] theorem sRetN_app : sRetN env = .rt .non env := rfl
@[simp] theorem sExpr_app : sExpr m env = (match m env with | .ok p => .nx p.2 | .no => .no | .ex x e => .ex x e) := rfl
@[simp] theorem sIf_app : sIf b s u env = (match b env with | .ok p => if p.1 then s p.2 else u p.2 | .no => .no | .ex x e => .ex x e) := rfl
@[simp] theorem gN_app : gN i d env = some (env.set i d) := rfl
@[simp] theorem gsN_app : gsN [] env = some env := rfl
@[simp] theorem gsC_app {t : Tgt} {ts : Tgts} {ds : List D} : gsC t ts (d :: ds) env = (t d env).bind fun e => ts ds e := rfl
@[simp] theorem gT_app {n : Nat} {ts : Tgts} {ds : List D} : gT n ts (.tup ds) env = if ds.length = n then ts ds env else none := rfl
@[simp] theorem sAsg_app {t : Tgt} : sAsg m t env = (match m env with | .ok p => (match t p.1 p.2 with | some e => .nx e | none => .no) | .no => .no | .ex x e => .ex x e) := rfl
@[simp] theorem sPar_app : sPar i j ms env = (match ms env with | .ok p => (match p.1 with | [x, y] => .nx ((p.2.set i x).set j y) | _ => .no) | .no => .no | .ex x e => .ex x e) := rfl
@[simp] theorem sSetIx_app : sSetIx i ma mb env = (match ma env with
  | .no => .no
  | .ex x e => .ex x e
  | .ok p => if live p.2 i then (match mb p.2 with
    | .no => .no
    | .ex x e => .ex x e
    | .ok q => match q.1, q.2[i]? with
      | .int k, some (.lst true ds) => (match L2.ixN ds.length k with
        | some j => .nx (q.2.set i (.lst true (ds.set j p.1)))
        | none => .no)
      | _, _ => .no) else .no) := rfl
@[simp] theorem sApp_app : sApp i ma env = if isLst env i then (match ma env with
  | .no => .no
  | .ex x e => .ex x e
  | .ok p => match p.2[i]? with
    | some (.lst true ds) => if ds.length < 100000 then .nx (p.2.set i (.lst true (ds ++ [p.1]))) else .no
    | _ => .no) else .no := rfl
@[simp] theorem sFor_app {it : Itm} {t : Tgt} : sFor it t s env = (match it env with | .ok p => forL t s p.1 p.2 | .no => .no | .ex x e => .ex x e) := rfl
@[simp] theorem iR1_app : iR1 ms env = (ms env).bind fun p => match p.1 with | [.int n] => if -1000000 ≤ n ∧ n ≤ 1000000 then .ok (rangeD 0 n.toNat, p.2) else .no | _ => .no := rfl
@[simp] theorem iR2_app : iR2 ms env = (ms env).bind fun p => match p.1 with | [.int a, .int b] => if -1000000 ≤ a ∧ a ≤ 1000000 ∧ -1000000 ≤ b ∧ b ≤ 1000000 then .ok (rangeD a (b - a).toNat, p.2) else .no | _ => .no := rfl
@[simp] theorem iL_app : iL m env = (m env).bind fun p => match p.1 with | .lst _ ds => .ok (shL ds, p.2) | .frz ds => .ok (ds, p.2) | _ => .no := rfl
@[simp] theorem iT_app : iT m env = (m env).bind fun p => match p.1 with | .tup ds => .ok (shL ds, p.2) | _ => .no := rfl
@[simp] theorem fSub_int {a b : Int} : fSub (.int a) (.int b) = some (.int (a - b)) := rfl
@[simp] theorem addD_int {a b : Int} : addD (.int a) (.int b) = some (.int (a + b)) := rfl
@[simp] theorem fLt_int {a b : Int} : fLt (.int a) (.int b) = some (.bl (decide (a < b))) := rfl
@[simp] theorem fLe_int {a b : Int} : fLe (.int a) (.int b) = some (.bl (decide (a ≤ b))) := rfl
@[simp] theorem fGt_int {a b : Int} : fGt (.int a) (.int b) = some (.bl (decide (b < a))) := rfl
@[simp] theorem fGe_int {a b : Int} : fGe (.int a) (.int b) = some (.bl (decide (b ≤ a))) := rfl
@[simp] theorem fNeg_int {a : Int} : fNeg (.int a) = some (.int (-a)) := rfl
theorem mulD_of {a b : Int} (h : a.natAbs.log2 + b.natAbs.log2 < 1000000) : mulD (.int a) (.int b) = some (.int (a * b)) := if_pos h
theorem fMod_of {a b : Int} (h : 0 < b) : fMod (.int a) (.int b) = some (.int (a % b)) := (if_pos (by omega)).trans (by rw [Int.fmod_eq_emod_of_nonneg a (by omega)])
theorem fDiv_of {a b : Int} (h : 0 < b) (h2 : b.natAbs.log2 < 9000) : fDiv (.int a) (.int b) = some (.int (a / b)) := (if_pos ⟨by omega, h2⟩).trans (by rw [Int.fdiv_eq_ediv_of_nonneg a (by omega)])
theorem fDiv_neg {a b : Int} (h : b ≠ 0) (h2 : b.natAbs.log2 < 9000) : fDiv (.int a) (.int b) = some (.int (a.fdiv b)) := if_pos ⟨h, h2⟩
@[simp] theorem fEq_int {a b : Int} : fEq (.int a) (.int b) = some (.bl (a == b)) := rfl
@[simp] theorem fNe_int {a b : Int} : fNe (.int a) (.int b) = some (.bl (!(a == b))) := rfl
@[simp] theorem fEq_bl {a b : Bool} : fEq (.bl a) (.bl b) = some (.bl (a == b)) := rfl
@[simp] theorem fNe_bl {a b : Bool} : fNe (.bl a) (.bl b) = some (.bl (!(a == b))) := rfl
@[simp] theorem own_int {a : Int} : own (.int a) = false := rfl
@[simp] theorem own_bl {a : Bool} : own (.bl a) = false := rfl
@[simp] theorem own_non : own .non = false := rfl
@[simp] theorem own_str {x : Str} : own (.str x) = false := rfl
@[simp] theorem own_frz {ds : List D} : own (.frz ds) = false := rfl
@[simp] theorem own_lstS {ds : List D} : own (.lst false ds) = false := rfl
@[simp] theorem own_lstO {ds : List D} : own (.lst true ds) = true := rfl
@[simp] theorem own_tup {ds : List D} : own (.tup ds) = ownL ds := rfl
@[simp] theorem ownL_nil : ownL [] = false := rfl
@[simp] theorem ownL_cons {ds : List D} : ownL (d :: ds) = (own d || ownL ds) := rfl
@[simp] theorem sh_int {a : Int} : sh (.int a) = .int a := rfl
@[simp] theorem sh_bl {a : Bool} : sh (.bl a) = .bl a := rfl
@[simp] theorem sh_non : sh .non = .non := rfl
@[simp] theorem sh_str {x : Str} : sh (.str x) = .str x := rfl
@[simp] theorem sh_lst {o : Bool} {ds : List D} : sh (.lst o ds) = .lst false (shL ds) := by simp [sh]
@[simp] theorem sh_frz {ds : List D} : sh (.frz ds) = .frz (shL ds) := by simp [sh]
@[simp] theorem sh_tup {ds : List D} : sh (.tup ds) = .tup (shL ds) := by simp [sh]
@[simp] theorem sh_dct {o : Bool} {ks : List L2.Key} {ds : List D} : sh (.dct o ks ds) = .dct false ks (shL ds) := by simp [sh]
@[simp] theorem own_dct {o : Bool} {ks : List L2.Key} {ds : List D} : own (.dct o ks ds) = o := rfl
@[simp] theorem sh_dead : sh .dead = .dead := rfl
@[simp] theorem sh_exo {c : Str} {ds : List D} : sh (.exo c ds) = .exo c ds := rfl
@[simp] theorem isDead_dct {o : Bool} {ks : List L2.Key} {ds : List D} : isDead (.dct o ks ds) = false := rfl
@[simp] theorem shL_nil : shL [] = [] := rfl
@[simp] theorem shL_cons {ds : List D} : shL (d :: ds) = sh d :: shL ds := rfl
@[simp] theorem isDead_int {a : Int} : isDead (.int a) = false := rfl
@[simp] theorem isDead_bl {a : Bool} : isDead (.bl a) = false := rfl
@[simp] theorem isDead_non : isDead .non = false := rfl
@[simp] theorem isDead_str {x : Str} : isDead (.str x) = false := rfl
@[simp] theorem isDead_frz {ds : List D} : isDead (.frz ds) = false := rfl
@[simp] theorem isDead_lst {o : Bool} {ds : List D} : isDead (.lst o ds) = false := rfl
@[simp] theorem isDead_tup {ds : List D} : isDead (.tup ds) = false := rfl
@[simp] theorem live_app : live env i = (match env[i]? with | some c => !isDead c | none => false) := rfl
@[simp] theorem gLen_lst {o : Bool} {ds : List D} : gLen [.lst o ds] = some (.int ds.length) := rfl
@[simp] theorem gLen_frz {ds : List D} : gLen [.frz ds] = some (.int ds.length) := rfl
@[simp] theorem gLen_tup {ds : List D} : gLen [.tup ds] = some (.int ds.length) := rfl
@[simp] theorem gAbs_int {a : Int} : gAbs [.int a] = some (.int (a.natAbs : Int)) := by show some (D.int (if a < 0 then -a else a)) = _; congr 2; split <;> omega
@[simp] theorem gMax_int {a b : Int} : gMax [.int a, .int b] = some (.int (max a b)) := by show some (D.int (if b > a then b else a)) = _; congr 2; split <;> omega
@[simp] theorem gMin_int {a b : Int} : gMin [.int a, .int b] = some (.int (min a b)) := by show some (D.int (if b < a then b else a)) = _; congr 2; split <;> omega
@[simp] theorem ixD_lst {o : Bool} {ds : List D} {k : Int} : ixD (.lst o ds) k = L2.atI ds k := rfl
@[simp] theorem ixD_frz {ds : List D} {k : Int} : ixD (.frz ds) k = L2.atI ds k := rfl
@[simp] theorem ixD_tup {ds : List D} {k : Int} : ixD (.tup ds) k = L2.atI ds k := rfl
theorem atI_of {α : Type} {xs : List α} {k : Int} (h : 0 ≤ k) : L2.atI xs k = xs[k.toNat]? := by
  unfold L2.atI L2.ixN
  rw [if_pos h]
  by_cases h2 : k < xs.length
  · rw [if_pos h2]; rfl
  · rw [if_neg h2]
    exact (List.getElem?_eq_none (by omega)).symm
@[simp] theorem atI_0 {α : Type} {xs : List α} : L2.atI xs 0 = xs[0]? := atI_of (by decide)
@[simp] theorem atI_1 {α : Type} {xs : List α} : L2.atI xs 1 = xs[1]? := atI_of (by decide)
@[simp] theorem atI_2 {α : Type} {xs : List α} : L2.atI xs 2 = xs[2]? := atI_of (by decide)
@[simp] theorem atI_lit {α : Type} {xs : List α} (n : Nat) : L2.atI xs (no_index (OfNat.ofNat n : Int)) = xs[n]? := atI_of (Int.natCast_nonneg n)
@[simp] theorem isiD_app {n : String} : isiD n [d] = (kindD d).map fun k => .bl (instOf k n) := rfl
theorem instOf_def {k n : String} : instOf k n = (k == n || (k == "bool" && n == "int")) := rfl
@[simp] theorem kindD_non : kindD .non = some "NoneType" := rfl
@[simp] theorem kindD_bl {b : Bool} : kindD (.bl b) = some "bool" := rfl
@[simp] theorem kindD_int {b : Int} : kindD (.int b) = some "int" := rfl
@[simp] theorem kindD_str {b : Str} : kindD (.str b) = some "str" := rfl
@[simp] theorem kindD_tup {ds : List D} : kindD (.tup ds) = some "tuple" := rfl
@[simp] theorem kindD_lst {o : Bool} {ds : List D} : kindD (.lst o ds) = some "list" := rfl
@[simp] theorem kindD_frz {ds : List D} : kindD (.frz ds) = some "list" := rfl
@[simp] theorem kindD_dct {o : Bool} {ks : List L2.Key} {ds : List D} : kindD (.dct o ks ds) = some "dict" := rfl
@[simp] theorem fnM_app {n len : Nat} {io : Bool} {m : Stm} {ds : List D} : fnM n len io m ds = if ds.length = n then (match m (ds ++ List.replicate (len - n) .dead) with
  | .rt d e => .ok (d, if io then e.getD 0 .dead else .dead)
  | .nx e => .ok (.non, if io then e.getD 0 .dead else .dead)
  | .ex x e => .ex x e
  | _ => .no) else .no := rfl
@[simp] theorem forL_nil {t : Tgt} : forL t s [] env = .nx env := rfl
theorem forL_cons {t : Tgt} {ds : List D} : forL t s (d :: ds) env = (match t d env with
    | none => .no
    | some e => match s e with
      | .nx e => forL t s ds e
      | .ct e => forL t s ds e
      | .bk e => .nx e
      | r => r) := rfl
mutual
@[simp] theorem own_sh : ∀ d : D, own (sh d) = false
  | .non => rfl
  | .bl _ => rfl
  | .int _ => rfl
  | .str _ => rfl
  | .tup ds => by simp [ownL_shL ds]
  | .lst _ ds => by simp
  | .frz ds => by simp
  | .dct _ _ _ => by simp
  | .exo _ _ => rfl
  | .dead => rfl
@[simp] theorem ownL_shL : ∀ ds : List D, ownL (shL ds) = false
  | [] => rfl
  | d :: ds => by simp [own_sh d, ownL_shL ds]
end
/-! ### sizes -/
theorem log2_lt {a : Int} {k : Nat} (h : a.natAbs < 2 ^ k) (hk : 0 < k) : a.natAbs.log2 < k := by
  by_cases z : a.natAbs = 0
  · rw [z]; exact Nat.lt_of_le_of_lt (by decide) hk
  · exact (Nat.log2_lt z).mpr h
theorem mul64 {a b : Int} (h : a.natAbs < 2 ^ 4000) (h2 : b.natAbs < 2 ^ 4000) : a.natAbs.log2 + b.natAbs.log2 < 1000000 := by
  have := log2_lt h (by decide)
  have := log2_lt h2 (by decide)
  omega
end
end Fl

/-! Fl: list comprehensions. -/
namespace Fl
open PySem PySem.Spec PyProof.Rows L2
section
variable {K : PySem.W.Frag} {W : Wh} {σ σ2 : L2.St} {env env' : Env} {F A A' B C : List Addr} {Hs H Hs' H' Hs'' H'' : Hp} {t te : TE} {tt : TT} {m me : Exp} {d : D} {v : V} {P : List Nat}

def wipeD (env : Env) : List Nat → Env
  | [] => env
  | i :: vs => (wipeD env vs).set i .dead
def backD (old : Env) : List Nat → Env → Env
  | [], e => e
  | i :: vs, e => backD old vs (match old[i]? with | some d => if own d || isDead d then e else e.set i d | none => e)
theorem wipeD_length (env : Env) : ∀ vs : List Nat, (wipeD env vs).length = env.length
  | [] => rfl
  | i :: vs => by unfold wipeD; rw [List.length_set, wipeD_length env vs]
theorem wipeD_at {env : Env} {i : Nat} : ∀ {vs : List Nat}, i ∈ vs → i < env.length → (wipeD env vs)[i]? = some D.dead
  | v :: vs, h, hl => by
    unfold wipeD
    by_cases e : v = i
    · subst e; rw [List.getElem?_set_self (by rw [wipeD_length]; exact hl)]
    · rw [List.getElem?_set_ne e]
      exact wipeD_at (by rcases List.mem_cons.mp h with h | h; exact absurd h.symm e; exact h) hl
theorem wipe_at {σ : L2.St} {i : Nat} : ∀ {vs : List Nat}, i ∉ vs → (L2.wipe σ vs)[i]? = σ[i]?
  | [], _ => rfl
  | v :: vs, h => by
    simp only [List.mem_cons, not_or] at h
    unfold L2.wipe
    rw [List.getElem?_set_ne (fun e => h.1 e.symm), wipe_at h.2]
theorem wipe_in {σ : L2.St} {i : Nat} : ∀ {vs : List Nat}, i ∈ vs → i < σ.length → (L2.wipe σ vs)[i]? = some none
  | v :: vs, h, hl => by
    unfold L2.wipe
    by_cases e : v = i
    · subst e; rw [List.getElem?_set_self (by rw [L2.wipe_length]; exact hl)]
    · rw [List.getElem?_set_ne e]
      exact wipe_in (by rcases List.mem_cons.mp h with h | h; exact absurd h.symm e; exact h) hl
theorem wipe_eq {vs : List Nat} (hl : σ2.length = σ.length) (h : ∀ i, i < σ.length → i ∉ vs → σ2[i]? = σ[i]?) : L2.wipe σ2 vs = L2.wipe σ vs := by
  apply List.ext_getElem?
  intro i
  by_cases hv : i ∈ vs
  · by_cases hi : i < σ.length
    · rw [wipe_in hv (by omega), wipe_in hv hi]
    · rw [List.getElem?_eq_none (by rw [L2.wipe_length]; omega), List.getElem?_eq_none (by rw [L2.wipe_length]; omega)]
  · rw [wipe_at hv, wipe_at hv]
    by_cases hi : i < σ.length
    · exact h i hi hv
    · rw [List.getElem?_eq_none (by omega), List.getElem?_eq_none (by omega)]
theorem ER.die : ∀ {σ : L2.St} {env : List D} {A : List Addr} {i : Nat}, ER K Hs H σ env A → ∃ A', ER K Hs H σ (env.set i .dead) A' ∧ ∀ a, A'.count a ≤ A.count a
  | _, _, _, i, .nil => ⟨[], .nil, fun a => by simp⟩
  | _, _, _, 0, .dead r => ⟨_, .dead r, fun a => Nat.le_refl _⟩
  | _, _, _, 0, .cons q r => ⟨_, .dead r, fun a => by rw [List.count_append]; omega⟩
  | _, _, _, i + 1, .dead r => by
    obtain ⟨A', h1, h2⟩ := ER.die (i := i) r
    exact ⟨A', .dead h1, h2⟩
  | _, _, _, i + 1, .cons q r => by
    obtain ⟨A', h1, h2⟩ := ER.die (i := i) r
    exact ⟨_, .cons q h1, fun a => by have := h2 a; rw [List.count_append, List.count_append]; omega⟩
theorem ER.wiped (r : ER K Hs H σ env A) : ∀ vs : List Nat, ∃ A', ER K Hs H σ (wipeD env vs) A' ∧ ∀ a, A'.count a ≤ A.count a
  | [] => ⟨A, r, fun a => Nat.le_refl _⟩
  | i :: vs => by
    obtain ⟨A1, h1, h2⟩ := ER.wiped r vs
    obtain ⟨A2, h3, h4⟩ := h1.die (i := i)
    exact ⟨A2, h3, fun a => Nat.le_trans (h4 a) (h2 a)⟩
/-- other slots where all is dead -/
theorem ER.swap : ∀ {σ : L2.St} {env : List D} {A : List Addr} {σ2 : L2.St}, ER K Hs H σ env A → σ2.length = σ.length → (∀ i : Nat, env[i]? ≠ some D.dead → σ2[i]? = σ[i]?) → ER K Hs H σ2 env A
  | _, _, _, σ2, .nil, hl, _ => by
    cases σ2 with
    | nil => exact .nil
    | cons a b => simp at hl
  | _, _, _, x :: σ2, .dead r, hl, h => .dead (ER.swap r (by simpa using hl) fun i hi => by simpa using h (i + 1) (by simpa using hi))
  | _, d :: _, _, x :: σ2, .cons q r, hl, h => by
    have r2 := ER.swap (σ2 := σ2) r (by simpa using hl) fun i hi => by simpa using h (i + 1) (by simpa using hi)
    by_cases e : d = D.dead
    · subst e; rw [q.dead0]; exact .dead r2
    · have := h 0 (by simpa using e)
      simp at this
      subst this
      exact .cons q r2
theorem wipeD_of {env : Env} {i : Nat} : ∀ {vs : List Nat}, i ∉ vs → (wipeD env vs)[i]? = env[i]?
  | [], _ => rfl
  | v :: vs, h => by
    simp only [List.mem_cons, not_or] at h
    unfold wipeD
    rw [List.getElem?_set_ne (fun e => h.1 e.symm), wipeD_of h.2]
/-- the block's slots: wiped -/
theorem ER.wipe (r : ER K Hs H σ env A) (vs : List Nat) : ∃ A', ER K Hs H (L2.wipe σ vs) (wipeD env vs) A' ∧ ∀ a, A'.count a ≤ A.count a := by
  obtain ⟨A', h1, h2⟩ := r.wiped vs
  refine ⟨A', h1.swap (L2.wipe_length _ _) fun i hi => ?_, h2⟩
  by_cases hv : i ∈ vs
  · by_cases hl : i < env.length
    · exact absurd (wipeD_at hv hl) hi
    · have := r.length
      rw [List.getElem?_eq_none (by rw [L2.wipe_length]; omega), List.getElem?_eq_none (by omega)]
  · rw [wipe_at hv]
/-- and back -/
theorem ER.unwipe {vs : List Nat} (r : ER K Hs H (L2.wipe σ vs) (wipeD env vs) A) : ER K Hs H σ (wipeD env vs) A := by
  have hl := r.length
  refine r.swap (L2.wipe_length _ _).symm fun i hi => ?_
  by_cases hv : i ∈ vs
  · by_cases hl2 : i < env.length
    · exact absurd (wipeD_at hv hl2) hi
    · rw [wipeD_length, L2.wipe_length] at hl
      rw [List.getElem?_eq_none (by omega), List.getElem?_eq_none (by rw [L2.wipe_length]; omega)]
  · rw [wipe_at hv]
theorem isDead_iff {d : D} : isDead d = false → d ≠ D.dead := fun h e => by subst e; cases h
theorem ER.back {old : Env} {B : List Addr} (r0 : ER K Hs H σ old B) (g : ∀ a o, Hs a = some o → Hs' a = some o) : ∀ {vs : List Nat} {e : Env} {A : List Addr}, ER K Hs' H' σ e A → ∃ A', ER K Hs' H' σ (backD old vs e) A' ∧ ∀ a, A'.count a ≤ A.count a
  | [], e, A, r => ⟨A, r, fun a => Nat.le_refl _⟩
  | i :: vs, e, A, r => by
    unfold backD
    cases h : old[i]? with
    | none => exact ER.back r0 g r
    | some d =>
      dsimp only
      by_cases hd : (own d || isDead d) = true
      · rw [if_pos hd]; exact ER.back r0 g r
      · rw [if_neg hd]
        simp only [Bool.or_eq_true, not_or, Bool.not_eq_true] at hd
        obtain ⟨v, B1, A1, e1, e2, e3, e4⟩ := r0.at h (isDead_iff hd.2)
        have e5 := e2.own0 (by simp [hd.1])
        subst e5
        have rv : RL K Hs' H' [v] [d] [] := e2.mono g fun a o c => by simp at c
        obtain ⟨A2, h1, h2⟩ := r.put (i := i) rv (by
          have := r.length; have := r0.length
          have := (List.getElem?_eq_some_iff.mp h).1
          omega)
        have : σ.set i (some v) = σ := by
          apply List.ext_getElem?
          intro j
          by_cases hj : i = j
          · subst hj; rw [List.getElem?_set_self (by have := (List.getElem?_eq_some_iff.mp e1).1; exact this), e1]
          · rw [List.getElem?_set_ne hj]
        rw [this] at h1
        obtain ⟨A3, h3, h4⟩ := ER.back r0 g (vs := vs) h1
        exact ⟨A3, h3, fun a => by have := h2 a; have := h4 a; simp only [List.count_nil] at *; omega⟩

/-- target leaves the number of slots -/
def Kp (f : Tgt) : Prop := ∀ d e e', f d e = some e' → e'.length = e.length
def Kps (f : Tgts) : Prop := ∀ d e e', f d e = some e' → e'.length = e.length
theorem kp_n {i : Nat} : Kp (gN i) := fun d e e' h => by cases h; simp
theorem kps_n : Kps gsN := fun d e e' h => by
  unfold gsN at h
  split at h
  · cases h; rfl
  · cases h
theorem kps_c {f : Tgt} {fs : Tgts} (a : Kp f) (b : Kps fs) : Kps (gsC f fs) := fun d e e' h => by
  cases d with
  | nil => cases h
  | cons d ds =>
    have h : (f d e).bind (fun e => fs ds e) = some e' := h
    cases h1 : f d e with
    | none => rw [h1] at h; cases h
    | some e1 => rw [h1] at h; exact (b _ _ _ h).trans (a _ _ _ h1)
theorem kp_t {n : Nat} {fs : Tgts} (b : Kps fs) : Kp (gT n fs) := fun d e e' h => by
  unfold gT at h
  split at h
  · split at h
    · exact b _ _ _ h
    · cases h
  · cases h

/-! ### one clause -/
def lcL (f : Tgt) (tt : Tst) (m : Exp) (vs : List Nat) : List D → Env → Option (List D × Env)
  | [], env => some ([], env)
  | d :: ds, env => match f d env with
    | none => none
    | some e => match tt e with
      | .ok p => if p.1 then (match m p.2 with
          | .ok q => (match lcL f tt m vs ds (wipeD q.2 vs) with
            | some r => some (q.1 :: r.1, r.2)
            | none => none)
          | _ => none) else lcL f tt m vs ds (wipeD p.2 vs)
      | _ => none
def eLc (n : Nat) (it : Itm) (f : Tgt) (tt : Tst) (m : Exp) (vs : List Nat) : Exp := fun env => match it env with
  | .ok p => if p.2.length = n ∧ p.1.length ≤ 100000 then (match lcL f tt m vs p.1 (wipeD p.2 vs) with
    | some r => .ok (.lst true r.1, backD p.2 vs r.2)
    | none => .no) else .no
  | .no => .no
  | .ex x e => .ex x e
theorem lcL_len {f : Tgt} {tt : Tst} {m : Exp} {vs : List Nat} : ∀ {ds : List D} {env : Env} {r : List D × Env}, lcL f tt m vs ds env = some r → r.1.length ≤ ds.length
  | [], env, r, h => by cases h; simp
  | d :: ds, env, r, h => by
    unfold lcL at h
    split at h
    · cases h
    · split at h
      · split at h
        · split at h
          · split at h
            · rename_i q
              cases h
              have := lcL_len q
              simp; omega
            · cases h
          · cases h
        · have := lcL_len h; simp; omega
      · cases h
theorem iteP {α : Type} {p : Prop} [Decidable p] {Q : α → Prop} {x y : α} (h1 : p → Q x) (h2 : ¬p → Q y) : Q (if p then x else y) := by
  by_cases h : p
  · rw [if_pos h]; exact h1 h
  · rw [if_neg h]; exact h2 h
theorem RL.snoc {xs : List V} {ys : List D} {y : D} (r : RL K Hs H xs ys A) (q : RL K Hs H [v] [y] B) : RL K Hs H (xs ++ [v]) (ys ++ [y]) (A ++ B) := r.app q
/-- what lies in a frame stays -/
theorem Ok.step0 (o : Ok Hs H A) (g : Go Hs H [] Hs' H' []) (s : ∀ a u, Hs' a = some u → H' a = some u) : Ok Hs' H' A := ⟨s, o.nd, fun a c => by
    rcases none_or (H := Hs') a with q | ⟨w, q⟩
    · exact q
    · rcases g.back a w q (o.off a c) with q | q
      · simp at q
      · exact absurd q (o.has a c), fun a c => by
    rcases none_or (H := H) a with q | ⟨w, q⟩
    · exact absurd q (o.has a c)
    · rw [g.keep a w q (by simp)]; simp⟩
theorem ev_lc {n : Nat} {wi : TI} {mi : Itm} {g : TG} {f : Tgt} {bm : Tst} {vs : List Nat} (ei : ItI K W wi mi) (eg : GI K ((List.range n).filter fun i => !vs.contains i) g f) (kf : Kp f) (et : EvB K W0 tt bm) (ee : EvI K W0 te me) : EvI K W (tLc wi g tt te vs) (eLc n mi f bm me vs) := by
  intro σ env F Hs H A r o
  unfold eLc
  cases h1 : mi env with
  | no => trivial
  | ex x e' => exact fun k Q => ei.ex r o h1 k _
  | ok p =>
    obtain ⟨ds, env1⟩ := p
    dsimp only
    refine iteP (fun hn => ?_) fun _ => trivial
    obtain ⟨hn, hz⟩ := hn
    cases h2 : lcL f bm me vs ds (wipeD env1 vs) with
    | none => trivial
    | some R =>
      obtain ⟨ys, envE⟩ := R
      dsimp only
      intro Q k
      refine ei.ok r o h1 fun J Hs1 H1 A1 gv r1 o1 g1 Dp hD => ?_
      obtain ⟨G, Y, wk, hG, hY⟩ := gv
      have o1D : Ok Hs1 (upd H1 Dp (.lst [])) (Dp :: (F ++ A1)) := o1.newO hD _
      have r1D : ER K Hs1 (upd H1 Dp (.lst [])) σ env1 A1 := r1.newO hD _
      obtain ⟨A1w, r1w, c1w⟩ := r1D.wipe vs
      refine lc_it wk (fun i H' => ∃ envi acc done rest Hs' Aa A', H' Dp = some (.lst acc) ∧ acc.length ≤ i ∧ RL K Hs' H' acc done Aa ∧ ER K Hs' H' (L2.wipe σ vs) (wipeD envi vs) A' ∧ Ok Hs' H' (Dp :: (Aa ++ (F ++ A'))) ∧
        Go Hs1 H1 A1 Hs' H' (Dp :: (Aa ++ A')) ∧ lcL f bm me vs (ds.drop i) (wipeD envi vs) = some (rest, envE) ∧ done ++ rest = ys)
        ⟨env1, [], [], ys, Hs1, [], A1w, upd_same, by simp, .nil, r1w, o1D.less fun a => by have := c1w a; simp only [List.count_cons, List.count_append, List.nil_append] at *; omega, (Go.newO hD _).less fun a c => by have := c1w a; simp only [List.count_cons, List.nil_append] at *; omega, h2, rfl⟩ ?_ ?_ ?_
      · rintro i H' _ ⟨ei, acc, done, rest, Hs', Aa, A', _, _, _, _, o', g', _, _⟩
        exact hG Hs' H' g'.hs o'.sub
      · rintro i x H' H2 hi ⟨envi, acc, done, rest, Hs', Aa, A', hDp, hac, ra, r', o', g', hf, hys⟩ hy
        have hd : ds[i]? = some ds[i] := List.getElem?_eq_getElem hi
        obtain ⟨Hs2, g2, s2, rx⟩ := hY i ds[i] Hs' H' x H2 hd g'.hs o'.sub hy
        rw [List.drop_eq_getElem_cons hi, lcL] at hf
        have r2 : ER K Hs2 H2 (L2.wipe σ vs) (wipeD envi vs) A' := r'.mono g2.hs fun a o _ h => g2.keep a o h (by simp)
        have ra2 : RL K Hs2 H2 acc done Aa := ra.mono g2.hs fun a o _ h => g2.keep a o h (by simp)
        have hDp2 : H2 Dp = some (.lst acc) := g2.keep _ _ hDp (by simp)
        have o2 := o'.step0 g2 s2
        have g3 : Go Hs1 H1 A1 Hs2 H2 (Dp :: (Aa ++ A')) := g'.trans g2.with0
        cases hfd : f ds[i] (wipeD envi vs) with
        | none => rw [hfd] at hf; cases hf
        | some e2 =>
          rw [hfd] at hf
          dsimp only at hf
          have o2' : Ok Hs2 H2 ([] ++ ((Dp :: (Aa ++ F)) ++ A')) := o2.less fun a => by simp only [List.count_cons, List.count_append, List.nil_append]; omega
          refine eg (L2.wipe σ vs) (wipeD envi vs) (Dp :: (Aa ++ F)) Hs2 H2 A' x ds[i] [] e2 rx r2 o2' hfd _ fun σ3 A3 q1 q2 p3 => ⟨?_, ?_⟩
          · have e1 := r2.length
            have e2 := q1.length
            have e3 := kf _ _ _ hfd
            have e4 := r1.length
            refine (wipe_eq (σ := L2.wipe σ vs) (by omega) fun j hj hjv => p3 j ?_).trans ?_
            · rw [L2.wipe_length] at hj
              simp only [List.mem_filter, List.mem_range, Bool.not_eq_true', List.contains_eq_mem, decide_eq_false_iff_not]
              exact ⟨by omega, hjv⟩
            · exact wipe_eq (by rw [L2.wipe_length]) fun j hj hjv => wipe_at hjv
          · have o3 : Ok Hs2 H2 ((Dp :: (Aa ++ F)) ++ A3) := o2'.less fun a => by have := q2 a; simp only [List.count_cons, List.count_append, List.nil_append, List.count_nil] at *; omega
            have hw3 : L2.wipe σ3 vs = L2.wipe σ vs := by
              have e1 := r2.length
              have e2 := q1.length
              have e3 := kf _ _ _ hfd
              have e4 := r1.length
              refine (wipe_eq (σ := L2.wipe σ vs) (by omega) fun j hj hjv => p3 j ?_).trans ?_
              · rw [L2.wipe_length] at hj
                simp only [List.mem_filter, List.mem_range, Bool.not_eq_true', List.contains_eq_mem, decide_eq_false_iff_not]
                exact ⟨by omega, hjv⟩
              · exact wipe_eq (by rw [L2.wipe_length]) fun j hj hjv => wipe_at hjv
            cases hb : bm e2 with
            | no => rw [hb] at hf; cases hf
            | ex x' e3 => rw [hb] at hf; cases hf
            | ok pb =>
              obtain ⟨bb, e3⟩ := pb
              rw [hb] at hf
              dsimp only at hf
              refine et.ok q1 o3 hb fun Hs4 H4 A4 r4 o4 g4 => ?_
              have hDp4 : H4 Dp = some (.lst acc) := g4.keep _ _ hDp2 (by
                have := o3.nd Dp; simp only [List.count_cons, List.count_append, beq_self_eq_true, if_true] at this; omega)
              have ra4 : RL K Hs4 H4 acc done Aa := ra2.go g4 fun a c => by
                have := o3.nd a; simp only [List.count_cons, List.count_append] at this; omega
              have g5 : Go Hs1 H1 A1 Hs4 H4 (Dp :: (Aa ++ A4)) := (g3.less (B := (Dp :: Aa) ++ A3) fun a c => by have := q2 a; simp only [List.count_cons, List.count_append, List.count_nil, List.cons_append] at *; omega).trans ((g4.frame (F := Dp :: Aa)))
              cases bb with
              | false =>
                simp only [Bool.false_eq_true, if_false] at hf ⊢
                obtain ⟨A5, r5, c5⟩ := r4.wipe vs
                rw [hw3] at r5
                exact ⟨e3, acc, done, rest, Hs4, Aa, A5, hDp4, by omega, ra4, r5, o4.less fun a => by have := c5 a; simp only [List.count_cons, List.count_append, List.cons_append]; omega, g5.less fun a c => by have := c5 a; simp only [List.count_cons, List.count_append] at *; omega, hf, hys⟩
              | true =>
                simp only [if_true] at hf ⊢
                cases he : me e3 with
                | no => rw [he] at hf; cases hf
                | ex x' e4 => rw [he] at hf; cases hf
                | ok pe =>
                  obtain ⟨y, e4⟩ := pe
                  rw [he] at hf
                  dsimp only at hf
                  cases hr : lcL f bm me vs (ds.drop (i + 1)) (wipeD e4 vs) with
                  | none => rw [hr] at hf; cases hf
                  | some R2 =>
                    obtain ⟨rest2, eE⟩ := R2
                    rw [hr] at hf
                    simp only [Option.some.injEq, Prod.mk.injEq] at hf
                    obtain ⟨hf1, hf2⟩ := hf
                    subst hf1 hf2
                    refine ee.ok r4 o4 he fun yv Hs6 H6 B6 A6 ry r6 o6 g6 => ?_
                    have hDp6 : H6 Dp = some (.lst acc) := g6.keep _ _ hDp4 (by
                      have := o4.nd Dp; simp only [List.count_cons, List.count_append, List.cons_append, beq_self_eq_true, if_true] at this; omega)
                    have ra6 : RL K Hs6 H6 acc done Aa := ra4.go g6 fun a c => by
                      have := o4.nd a; simp only [List.count_cons, List.count_append, List.cons_append] at this; omega
                    have ndD := o6.nd Dp
                    simp only [List.count_cons, List.count_append, List.cons_append, beq_self_eq_true, if_true] at ndD
                    obtain ⟨A7, r7, c7⟩ := r6.wipe vs
                    rw [hw3] at r7
                    refine ⟨acc, hDp6, Nat.lt_of_lt_of_le (show acc.length < 100001 by omega) (by decide), e4, acc ++ [yv], done ++ [y], rest2, Hs6, Aa ++ B6, A7, upd_same, by simp; omega, ?_, ?_, ?_, ?_, hr, by simp [← hys]⟩
                    · exact (ra6.wr (by omega) _).snoc (ry.wr (by omega) _)
                    · exact r7.wr (by have := c7 Dp; omega) _
                    · have o7 : Ok Hs6 H6 (Dp :: ((Aa ++ B6) ++ (F ++ A7))) := o6.less fun a => by have := c7 a; simp only [List.count_cons, List.count_append, List.cons_append]; omega
                      exact o7.wr fun a => Nat.le_refl _
                    · have g7 : Go Hs1 H1 A1 Hs6 H6 (Dp :: ((Aa ++ B6) ++ A7)) := (g5.trans (g6.frame (F := Dp :: Aa))).less fun a c => by have := c7 a; simp only [List.count_cons, List.count_append, List.cons_append] at *; omega
                      exact g7.trans (Go.wr (by simp) _)
      · rintro H' ⟨envi, acc, done, rest, Hs', Aa, A', hDp, hac, ra, r', o', g', hf, hys⟩
        rw [List.drop_eq_nil_of_le (Nat.le_refl _), lcL] at hf
        simp only [Option.some.injEq, Prod.mk.injEq] at hf
        obtain ⟨hf1, hf2⟩ := hf
        subst hf1 hf2
        simp only [List.append_nil] at hys
        subst hys
        obtain ⟨A8, r8, c8⟩ := ER.back r1 g'.hs (vs := vs) r'.unwipe
        refine k (.ref Dp) Hs' H' (Dp :: Aa) A8 ?_ r8 (o'.less fun a => by have := c8 a; simp only [List.count_cons, List.count_append, List.cons_append]; omega) ((g1.trans g').less fun a c => by have := c8 a; simp only [List.count_cons, List.count_append, List.cons_append] at *; omega)
        simpa using RL.lstO hDp ra .nil
/-! ### by syntax -/
def bYes : Tst := fun env => .ok (true, env)
theorem eb_yes : EvB K W tYes bYes := fun σ env F Hs H A r o Q k => k Hs H A r o Go.refl
end
def ITs (X : Cx) (W : Wh) (cs : List Expr) (m : Tst) : Prop := ∃ t, PTs X cs t ∧ EvB X.K W t m
section
variable {X : Cx} {W : Wh} {P : List Nat} {a b c e elt tg iter : Expr} {es ifs : List Expr} {ma mb m : Exp} {ms : Arg} {pos p : Pos} {x : Str} {bm bn : Tst}
theorem its_nil : ITs X W [] bYes := ⟨_, pts_nil, eb_yes⟩
theorem its_one (h : IB X W c bm) : ITs X W [c] bm := let ⟨_, h1, h2⟩ := h; ⟨_, pts_one h1, h2⟩
theorem ie_all {ι : Type} {X : ι → Cx} {K : PySem.W.Frag} {e : Expr} {m : Exp} (hK : ∀ i, (X i).K = K) (h : ∀ i, IE (X i) W e m) : ∃ t, (∀ i, PE (X i) e t) ∧ EvI K W t m := by
  refine ⟨fun σ H Q => ∀ i, Classical.choose (h i) σ H Q, fun i => ⟨fun pins s σ H Q I q => (Classical.choose_spec (h i)).1.run pins s σ H Q I (q i)⟩, fun σ env F Hs H A r o => ?_⟩
  have key : ∀ i, PostE K W (Classical.choose (h i)) σ F Hs H A (m env) := fun i => by
    have q := (Classical.choose_spec (h i)).2
    have z : ∀ K', (X i).K = K' → EvI K' W (Classical.choose (h i)) m := fun K' e => by subst e; exact q
    exact z K (hK i) σ env F Hs H A r o
  cases hm : m env with
  | no => trivial
  | ok p => exact fun Q k i => (hm ▸ key i : PostE K W _ σ F Hs H A (.ok p)) Q k
  | ex x e' => exact fun k Q i => (hm ▸ key i : PostE K W _ σ F Hs H A (.ex x e')) k Q
theorem its_all {ι : Type} {X : ι → Cx} {K : PySem.W.Frag} {m : Tst} (hK : ∀ i, (X i).K = K) (h : ∀ i, ITs (X i) W ifs m) : ∃ t, (∀ i, PTs (X i) ifs t) ∧ EvB K W t m := by
  refine ⟨fun σ H Q => ∀ i, Classical.choose (h i) σ H Q, fun i => ⟨fun pins s σ H Q I q => (Classical.choose_spec (h i)).1.run pins s σ H Q I (q i)⟩, fun σ env F Hs H A r o => ?_⟩
  have key : ∀ i, PostB K W (Classical.choose (h i)) σ F Hs H A (m env) := fun i => by
    have q := (Classical.choose_spec (h i)).2
    have z : ∀ K', (X i).K = K' → EvB K' W (Classical.choose (h i)) m := fun K' e => by subst e; exact q
    exact z K (hK i) σ env F Hs H A r o
  cases hm : m env with
  | no => trivial
  | ok p => exact fun Q k i => (hm ▸ key i : PostB K W _ σ F Hs H A (.ok p)) Q k
  | ex x e' => exact fun k Q i => (hm ▸ key i : PostB K W _ σ F Hs H A (.ex x e')) k Q
theorem ig_all {ι : Type} {X : ι → Cx} {K : PySem.W.Frag} {e : Expr} {f : Tgt} (hK : ∀ i, (X i).K = K) (h : ∀ i, IG (X i) P e f) : ∃ g, (∀ i, PG (X i) e g) ∧ GI K P g f := by
  refine ⟨fun v σ H Q => ∀ i, Classical.choose (h i) v σ H Q, fun i => ⟨fun pins s σ H x v Q I rv q => (Classical.choose_spec (h i)).1.run pins s σ H x v Q I rv (q i)⟩, fun σ env F Hs H A v d B env' rv r o he Q k i => ?_⟩
  have q := (Classical.choose_spec (h i)).2
  have z : ∀ K', (X i).K = K' → GI K' P (Classical.choose (h i)) f := fun K' e => by subst e; exact q
  exact z K (hK i) σ env F Hs H A v d B env' rv r o he Q k
abbrev Ix := Shared × Hp × Addr × List (Str × Addr) × List Addr
def blkOf (X : Cx) (scope : Scope) (i : Ix) : Cx := X.blk i.1 i.2.1 scope (compEnvC scope i.2.2.2.1 i.2.2.1 X.env) i.2.2.2.2
theorem ie_lc {scope : Scope} {n : Nat} {mi : Itm} {f : Tgt} (own : List (Str × Nat)) (N : List Str) (sc : Scope) (hc : X.calm = true) (hN : X.N.Nodup) (hi : II X W tg iter mi) (kf : Kp f)
    (hg : ∀ i : Ix, IG (blkOf X scope i) ((List.range n).filter fun i => !(own.map (·.2)).contains i) tg f) (ht : ∀ i : Ix, ITs (blkOf X scope i) W0 ifs bm) (he : ∀ i : Ix, IE (blkOf X scope i) W0 elt m)
    (ok : blkC N sc scope own = true := by decide +kernel) (eN : X.N = N := by rfl) (eS : X.env.scope = sc := by rfl) (hs : ∀ x, foldedSetIterable iter X.env x = pure x := by intro _; rfl) :
    IE X W (.ListComp elt [⟨tg, iter, ifs, 0⟩] scope pos) (eLc n mi f bm m (own.map (·.2))) := by
  obtain ⟨wi, i1, i2⟩ := hi
  obtain ⟨g, g1, g2⟩ := ig_all (K := X.K) (X := blkOf X scope) (fun _ => rfl) hg
  obtain ⟨tt, t1, t2⟩ := its_all (K := X.K) (X := blkOf X scope) (fun _ => rfl) ht
  obtain ⟨te, e1, e2⟩ := ie_all (K := X.K) (X := blkOf X scope) (fun _ => rfl) he
  exact ⟨_, pe_lc hc hN i1 (blkOk_by (by rw [eN, eS]; exact ok)) (fun s H C cl fp => g1 (s, H, C, cl, fp)) (fun s H C cl fp => t1 (s, H, C, cl, fp)) (fun s H C cl fp => e1 (s, H, C, cl, fp)) hs, ev_lc i2 g2 kf t2 e2⟩
theorem is_setLc {scope : Scope} {n : Nat} {mi : Itm} {f : Tgt} {py spos : Pos} (i : Nat) (own : List (Str × Nat)) (N : List Str) (sc : Scope) (hc : X.calm = true) (hN : X.N.Nodup) (hi : II X W tg iter mi) (kf : Kp f)
    (hg : ∀ i : Ix, IG (blkOf X scope i) ((List.range n).filter fun i => !(own.map (·.2)).contains i) tg f) (ht : ∀ i : Ix, ITs (blkOf X scope i) W0 ifs bm) (he : ∀ i : Ix, IE (blkOf X scope i) W0 elt m)
    (hP : i ∉ P := by decide) (hy : X.N[i]? = some x := by rfl) (hyl : X.env.scope.names.lookup x = some .local := by rfl) (hk : X.env.scope.kind = .function := by rfl) (hl : (py.line == pos.line) = true := by rfl)
    (ha : (scope.names.any fun (n, k) => n == x && (k == .local || k == .cell)) = false := by decide +kernel)
    (ok : blkC N sc scope own = true := by decide +kernel) (eN : X.N = N := by rfl) (eS : X.env.scope = sc := by rfl) (hs : ∀ x, foldedSetIterable iter X.env x = pure x := by intro _; rfl) :
    IS X W P (.Assign [.Name x py] (.ListComp elt [⟨tg, iter, ifs, 0⟩] scope pos) spos) (sAsg (eLc n mi f bm m (own.map (·.2))) (gN i)) := by
  obtain ⟨wi, i1, i2⟩ := hi
  obtain ⟨g, g1, g2⟩ := ig_all (K := X.K) (X := blkOf X scope) (fun _ => rfl) hg
  obtain ⟨tt, t1, t2⟩ := its_all (K := X.K) (X := blkOf X scope) (fun _ => rfl) ht
  obtain ⟨te, e1, e2⟩ := ie_all (K := X.K) (X := blkOf X scope) (fun _ => rfl) he
  exact ⟨_, ps_setLc hc hN hy hyl (sw_true hk hyl hl ha) i1 (blkOk_by (by rw [eN, eS]; exact ok)) (fun s H C cl fp => g1 (s, H, C, cl, fp)) (fun s H C cl fp => t1 (s, H, C, cl, fp)) (fun s H C cl fp => e1 (s, H, C, cl, fp)) hs, st_asg (ev_lc i2 g2 kf t2 e2) (gi_name hP)⟩
end
section
variable {env : Env} {d : D} {n i : Nat} {m : Exp} {it : Itm} {f : Tgt} {b : Tst} {vs : List Nat} {ds : List D}
@[simp] theorem bYes_app : bYes env = .ok (true, env) := rfl
@[simp] theorem wipeD_nil : wipeD env [] = env := rfl
@[simp] theorem wipeD_cons : wipeD env (i :: vs) = (wipeD env vs).set i .dead := rfl
@[simp] theorem backD_nil {old : Env} : backD old [] env = env := rfl
@[simp] theorem backD_cons {old : Env} : backD old (i :: vs) env = backD old vs (match old[i]? with | some d => if own d || isDead d then env else env.set i d | none => env) := rfl
@[simp] theorem eLc_app : eLc n it f b m vs env = (match it env with
  | .ok p => if p.2.length = n ∧ p.1.length ≤ 100000 then (match lcL f b m vs p.1 (wipeD p.2 vs) with
    | some r => .ok (.lst true r.1, backD p.2 vs r.2)
    | none => .no) else .no
  | .no => .no
  | .ex x e => .ex x e) := rfl
@[simp] theorem lcL_nil : lcL f b m vs [] env = some ([], env) := rfl
theorem lcL_cons : lcL f b m vs (d :: ds) env = (match f d env with
    | none => none
    | some e => match b e with
      | .ok p => if p.1 then (match m p.2 with
          | .ok q => (match lcL f b m vs ds (wipeD q.2 vs) with
            | some r => some (q.1 :: r.1, r.2)
            | none => none)
          | _ => none) else lcL f b m vs ds (wipeD p.2 vs)
      | _ => none) := rfl
/-- a comprehension that maps, the slots as they were -/
theorem lcL_map {α : Type} (l : List α) (h : α → D) (r : α → D) (hyp : ∀ x ∈ l, ∃ e e' e2, f (h x) env = some e ∧ b e = .ok (true, e') ∧ m e' = .ok (r x, e2) ∧ wipeD e2 vs = env) : lcL f b m vs (l.map h) env = some (l.map r, env) := by
  induction l with
  | nil => rfl
  | cons x l ih =>
    obtain ⟨e, e', e2, h1, h2, h3, h4⟩ := hyp x (by simp)
    rw [List.map_cons, lcL_cons, h1]
    dsimp only
    rw [h2]
    dsimp only
    rw [if_pos rfl, h3]
    dsimp only
    rw [h4, ih fun y hy => hyp y (by simp [hy])]
    rfl
/-- with a test -/
theorem lcL_filter {α : Type} (l : List α) (h : α → D) (r : α → D) (p : α → Bool) (hyp : ∀ x ∈ l, ∃ e e', f (h x) env = some e ∧ b e = .ok (p x, e') ∧ (p x = false → wipeD e' vs = env) ∧ (p x = true → ∃ e2, m e' = .ok (r x, e2) ∧ wipeD e2 vs = env)) : lcL f b m vs (l.map h) env = some ((l.filter p).map r, env) := by
  induction l with
  | nil => rfl
  | cons x l ih =>
    obtain ⟨e, e', h1, h2, h3, h4⟩ := hyp x (by simp)
    have ih := ih fun y hy => hyp y (by simp [hy])
    rw [List.map_cons, lcL_cons, h1]
    dsimp only
    rw [h2]
    dsimp only
    cases hp : p x with
    | false => rw [if_neg (by simp), h3 hp, ih]; simp [List.filter_cons, hp]
    | true =>
      obtain ⟨e2, h5, h6⟩ := h4 hp
      rw [if_pos rfl, h5]
      dsimp only
      rw [h6, ih]
      simp [List.filter_cons, hp]
end
end Fl

/-! ### defs with defaults -/
namespace Fl
open PySem PySem.Spec PyProof.Rows L2
section
variable {Pg : Program} {w : World} {K : PySem.W.Frag} {mg : Str → Option Value} {base : Heap}
theorem fn_defD {x qual : Str} {st : Stmt} {f : Addr} {fd : FuncData} {N ps : List Str} {dvs : List V} {k n : Nat} {io : Bool} {m : Stm} (F : FunD K x qual (defArgs st) (defBody st) (defScope st) dvs [] f fd) (S : FnScope N ps (defScope st)) (hn : ps.length = n) (h0 : 0 < n)
    (body : ∀ (cdv : Value) (A : Around) (outer : List PySem.Env) (s : Shared) (H : Hp) (E : XK), Room k (A.deeper (envOfC qual (defScope st) s.heap.objs.size f cdv)) →
      ISs (cxOf CX0 Pg w K mg base N qual (defScope st) f cdv A outer s H E).nox W0 (if io then [0] else []) (defBody st) m) :
    FnOk Pg w K mg base CX0 (k + 1) f fd ps (spI K n (fnM n N.length io m)) := by
  refine F.ok S (fun vs H Q E h => by rw [hn]; exact h.1) (fun cdv A outer s H vs Q E hr h => ?_)
  obtain ⟨t, h1, h2⟩ := body cdv A outer s H E hr
  exact ⟨t, h1.nox, fn_end rfl h0 h2 h⟩
/-- a def with defaults, all of its parameters written -/
theorem has_ofD {x qual : Str} {params : Arguments} {body : List Stmt} {scope : Scope} {f : Addr} {fd : FuncData} {ps : List Str} {dvs : List V} {k n : Nat} {m : Fn} (F : FunD K x qual params body scope dvs [] f fd) (hl : ∀ ds q, m ds = .ok q → ds.length = n) (h : FnOk Pg w K mg base CX0 k f fd ps (spI K n m)) (hm : mg x = some (.ref f)) (hd : dvs ≠ [])
    (b : ∀ (T : Addr) (kV doc pm : Value) (an : Option Addr) (cdv ct : Value) (us its : List Value), us.length = ps.length → its.length = dvs.length →
      ∃ k, bindArgs (PySem.W.fnOf x qual params body scope (.ref T) kV doc pm an cdv ct) ⟨us, []⟩ = seqItems? (.ref T) >>= k ∧ k (some its.toArray) = pure (ps.zip us)) : Has Pg w K mg base k x n m := by
  obtain ⟨ds, h1, h2⟩ := F.binds1 (ps := ps) ps.length dvs.length hd (by simp) (fun T kV doc pm an cdv ct us its hu hi => by
    obtain ⟨k, e1, e2⟩ := b T kV doc pm an cdv ct us its hu hi
    refine ⟨k, e1, ?_⟩
    rw [e2, show its.drop dvs.length = [] by rw [← hi]; simp, List.append_nil])
  rw [List.drop_length] at h1
  cases h1
  exact ⟨hl, f, fd, ps, h, hm, F.kp, h2⟩
theorem funD_mk {x qual : Str} {st : Stmt} {f T : Addr} {oc tc : Value} {od td an : Option Addr} {osl tsl : Array (Option Value)} {kV doc pm cdv ct : Value} {n : Nat} {its : List Value} {dvs : List V} (l : K.lookup f = some ⟨oc, od, .func (PySem.W.fnOf x qual (defArgs st) (defBody st) (defScope st) (.ref T) kV doc pm an cdv ct), osl⟩)
    (c : PySem.W.codeIn K cdv qual = true) (k : PySem.W.keepIn K (.ref f) = true) (t : K.lookup T = some ⟨tc, td, .seq its.toArray n, tsl⟩) (r : Vals dvs its) (hd : dvs ≠ []) :
    FunD K x qual (defArgs st) (defBody st) (defScope st) dvs [] f (PySem.W.fnOf x qual (defArgs st) (defBody st) (defScope st) (.ref T) kV doc pm an cdv ct) :=
  ⟨⟨oc, od, .ref T, kV, doc, pm, an, cdv, ct, osl, rfl, l, c, .inr ⟨hd, T, _, its, n, rfl, t, rfl, r⟩, .inl rfl⟩, k⟩
end
end Fl

/-! Fl: built-ins of one container, slices, in, zip and its kin. -/
namespace Fl
open PySem PySem.Spec PyProof.Rows L2
section
variable {K : PySem.W.Frag} {W : Wh} {σ : L2.St} {env env' : Env} {F A A' B C : List Addr} {Hs H Hs' H' : Hp} {t ta tb : TE} {m ma mb : Exp} {c d d1 d2 : D} {v : V} {vs : List V} {ds : List D}
/-- its items shared -/
def shI : D → D
  | .lst o ds => .lst o (shL ds)
  | .tup ds => .tup (shL ds)
  | .frz ds => .frz (shL ds)
  | .dct o ks ds => .dct o ks (shL ds)
  | d => d
theorem RL.shs (r : RL K Hs H vs ds []) : RL K Hs H vs (shL ds) [] := r.share (fun _ _ h => h) fun a c => by simp at c
/-- the items shared, the thing itself as it was -/
theorem RL.shIt (r : RL K Hs H [v] [c] B) (o : Ok Hs H (B ++ C)) : ∃ Hs1 B1, RL K Hs1 H [v] [shI c] B1 ∧ Ok Hs1 H (B1 ++ C) ∧ (∀ a u, Hs a = some u → Hs1 a = some u) ∧ (∀ a, B1.count a ≤ B.count a) ∧ ∀ a u, Hs1 a = some u → Hs a = none → 0 < B.count a := by
  have triv : shI c = c → ∃ Hs1 B1, RL K Hs1 H [v] [shI c] B1 ∧ Ok Hs1 H (B1 ++ C) ∧ (∀ a u, Hs a = some u → Hs1 a = some u) ∧ (∀ a, B1.count a ≤ B.count a) ∧ ∀ a u, Hs1 a = some u → Hs a = none → 0 < B.count a := fun e => by
    rw [e]
    exact ⟨Hs, B, r, o, fun _ _ h => h, fun _ => Nat.le_refl _, fun a u h n => by rw [n] at h; cases h⟩
  cases r with
  | sc h r => refine triv ?_; cases v <;> simp [scD] at h <;> subst h <;> rfl
  | @tup a xs es A1 vs1 ds1 B1 h1 h2 h3 =>
    cases h3
    have o1 : Ok Hs H (A1 ++ C) := o.less fun a => by simp only [List.count_append]; omega
    refine ⟨pool Hs H A1, [], ?_, o1.pool, pool_ext o1, fun a => by simp, fun a u h n => ?_⟩
    · simpa [shI] using RL.tup (ext_t (pool_ext o1) h1) (h2.shareL o1) RL.nil
    · rw [List.count_append]
      by_cases q : 0 < A1.count a
      · omega
      · rw [pool_out (by omega), n] at h; cases h
  | @frz a xs es vs1 ds1 B1 h1 h2 h3 =>
    cases h3
    exact ⟨Hs, [], .frz h1 h2.shs .nil, o, fun _ _ h => h, fun _ => Nat.le_refl _, fun a u h n => by rw [n] at h; cases h⟩
  | @lstS a xs es vs1 ds1 B1 h1 h2 h3 =>
    cases h3
    exact ⟨Hs, [], .lstS h1 h2.shs .nil, o, fun _ _ h => h, fun _ => Nat.le_refl _, fun a u h n => by rw [n] at h; cases h⟩
  | @dctS a kvs ks es vs1 ds1 B1 h1 hk h2 h3 =>
    cases h3
    exact ⟨Hs, [], .dctS h1 hk h2.shs .nil, o, fun _ _ h => h, fun _ => Nat.le_refl _, fun a u h n => by rw [n] at h; cases h⟩
  | @lstO a xs es A1 vs1 ds1 B1 h1 h2 h3 =>
    cases h3
    have o1 : Ok Hs H (A1 ++ (a :: C)) := o.less fun a => by simp only [List.count_append, List.count_cons, List.cons_append, List.count_nil]; omega
    refine ⟨pool Hs H A1, [a], ?_, o1.pool, pool_ext o1, fun b => by simp only [List.count_append, List.count_cons, List.count_nil]; omega, fun b u h n => ?_⟩
    · simpa [shI] using RL.lstO h1 (h2.shareL o1) RL.nil
    · rw [List.count_cons, List.count_append]
      by_cases q : 0 < A1.count b
      · omega
      · rw [pool_out (by omega), n] at h; cases h
  | @dct a kvs ks es A1 vs1 ds1 B1 h1 hk h2 h3 =>
    cases h3
    have o1 : Ok Hs H (A1 ++ (a :: C)) := o.less fun a => by simp only [List.count_append, List.count_cons, List.cons_append, List.count_nil]; omega
    refine ⟨pool Hs H A1, [a], ?_, o1.pool, pool_ext o1, fun b => by simp only [List.count_append, List.count_cons, List.count_nil]; omega, fun b u h n => ?_⟩
    · simpa [shI] using RL.dct h1 hk (h2.shareL o1) RL.nil
    · rw [List.count_cons, List.count_append]
      by_cases q : 0 < A1.count b
      · omega
      · rw [pool_out (by omega), n] at h; cases h
  | dead h => exact triv rfl
/-- what such a value's part of the owned is -/
theorem Go.shIt (e : ∀ a u, Hs a = some u → Hs' a = some u) (b : ∀ a u, Hs' a = some u → Hs a = none → 0 < B.count a) (l : ∀ a, C.count a ≤ B.count a) : Go Hs H (B ++ A) Hs' H (C ++ A) :=
  ⟨e, fun a o h _ => h, fun a o h n => .inl (by have := b a o h n; rw [List.count_append]; omega), fun a c => .inl (by have := l a; rw [List.count_append] at *; omega)⟩
/-- a built-in of one thing whose items own nothing: what it tells is new -/
def CaG (K : PySem.W.Frag) (r : List V → Hp → VK → Prop) (f : D → Option D) : Prop := ∀ Hs H v c B C d, RL K Hs H [v] [shI c] B → Ok Hs H (B ++ C) → f (shI c) = some d → ∀ Q : VK,
  (∀ v' Hs' H' B', RL K Hs' H' [v'] [d] B' → Ok Hs' H' (B' ++ (B ++ C)) → Go Hs H [] Hs' H' B' → Q v' H') → r [v] H Q
def eG1 (f : D → Option D) (m : Exp) : Exp := fun env => (m env).bind fun p => match f (shI p.1) with
  | some d => .ok (d, p.2)
  | none => .no
theorem ev_g1 {r : List V → Hp → VK → Prop} {f : D → Option D} (hr : CaG K r f) (e : EvI K W t m) : EvI K W (tCB r (tCons t tNil)) (eG1 f m) := by
  intro σ env F Hs H A rr o
  unfold eG1
  cases h1 : m env with
  | no => trivial
  | ex x e' => exact fun k Q => e.ex rr o h1 k _
  | ok p =>
    obtain ⟨c, env1⟩ := p
    simp only [Res.bind_ok]
    cases h2 : f (shI c) with
    | none => trivial
    | some d =>
      intro Q k
      refine e.ok rr o h1 fun v Hs1 H1 B1 A1 rv r1 o1 g1 => ?_
      obtain ⟨Hs2, B2, q1, q2, q3, q4, q5⟩ := rv.shIt o1
      have g2 : Go Hs H A Hs2 H1 (B2 ++ A1) := g1.trans (Go.shIt q3 q5 q4)
      refine hr Hs2 H1 v c B2 (F ++ A1) d q1 q2 h2 Q fun v' Hs3 H3 B3 r3 o3 g3 => ?_
      have r2 : ER K Hs2 H1 σ env1 A1 := r1.mono q3 fun a o _ h => h
      refine k v' Hs3 H3 B3 A1 r3 (r2.mono g3.hs fun a o _ h => g3.keep a o h (by simp)) (o3.less fun a => by simp only [List.count_append]; omega) ?_
      have g4 : Go Hs2 H1 (B2 ++ A1) Hs3 H3 ((B2 ++ A1) ++ B3) := (g3.frame (F := B2 ++ A1)).more fun a c => by simpa using c
      exact (g2.trans g4).less fun a c => by simp only [List.count_append] at *; omega
def eG1V (f : D → Option D) (i : Nat) : Exp := fun env => match env[i]? with
  | some c => if isDead c then .no else (match f (shI c) with
    | some d => .ok (d, env.set i (shI c))
    | none => .no)
  | none => .no
theorem ER.openI (r : ER K Hs H σ env A) (o : Ok Hs H (F ++ A)) {i : Nat} (h : env[i]? = some c) (hd : isDead c = false) : ∃ v Hs1 B1 A1 A2, σ[i]? = some (some v) ∧ RL K Hs1 H [v] [shI c] B1 ∧ Ok Hs1 H (B1 ++ (F ++ A1)) ∧ Go Hs H A Hs1 H (B1 ++ A1) ∧
    ER K Hs1 H σ (env.set i (shI c)) A2 ∧ ∀ a, A2.count a = B1.count a + A1.count a := by
  obtain ⟨v, B, A1, e1, e2, e3, e4⟩ := r.at h (isDead_iff hd)
  have o1 : Ok Hs H (B ++ (F ++ A1)) := o.less fun a => by have := e4 a; simp only [List.count_append]; omega
  obtain ⟨Hs2, B2, q1, q2, q3, q4, q5⟩ := e2.shIt o1
  obtain ⟨A3, p1, p2⟩ := ER.give (e3.mono q3 fun a o _ h => h) q1 e1 (List.getElem?_eq_some_iff.mp h).1
  exact ⟨v, Hs2, B2, A1, A3, e1, q1, q2, (Go.shIt q3 q5 q4).more fun a c => by have := e4 a; simp only [List.count_append] at *; omega, p1, p2⟩
theorem ev_g1V {r : List V → Hp → VK → Prop} {f : D → Option D} {i : Nat} (hr : CaG K r f) : EvI K W (tCB r (tCons (tVar i) tNil)) (eG1V f i) := by
  intro σ env F Hs H A rr o
  unfold eG1V
  cases h : env[i]? with
  | none => trivial
  | some c =>
    dsimp only
    cases hd : isDead c with
    | true => trivial
    | false =>
      simp only [Bool.false_eq_true, if_false]
      cases h2 : f (shI c) with
      | none => trivial
      | some d =>
        intro Q k
        obtain ⟨v, Hs1, B1, A1, A2, e1, q1, q2, g1, p1, p2⟩ := rr.openI o h hd
        refine ⟨v, e1, ?_⟩
        refine hr Hs1 H v c B1 (F ++ A1) d q1 q2 h2 Q fun v' Hs3 H3 B3 r3 o3 g3 => ?_
        refine k v' Hs3 H3 B3 A2 r3 (p1.mono g3.hs fun a o _ h => g3.keep a o h (by simp)) (o3.less fun a => by have := p2 a; simp only [List.count_append]; omega) ?_
        have g4 : Go Hs1 H (B1 ++ A1) Hs3 H3 ((B1 ++ A1) ++ B3) := (g3.frame (F := B1 ++ A1)).more fun a c => by simpa using c
        exact (g1.trans g4).less fun a c => by have := p2 a; simp only [List.count_append] at *; omega
/-- two names compared, or a name at the right, as they stand -/
def eBinV (f : D → D → Option D) (ma : Exp) (i : Nat) : Exp := fun env => (ma env).bind fun p => match p.2[i]? with
  | some c => if isDead c then .no else (match f p.1 c with
    | some d => .ok (d, p.2)
    | none => .no)
  | none => .no
theorem ev_binV {r : R2} {f : D → D → Option D} {i : Nat} (hr : OpS K r f) (ea : EvI K W ta ma) : EvI K W (tOp r ta (tVar i)) (eBinV f ma i) := by
  intro σ env F Hs H A rr o
  unfold eBinV
  cases h1 : ma env with
  | no => trivial
  | ex x e => exact fun k Q => ea.ex rr o h1 k _
  | ok p =>
    obtain ⟨d1, env1⟩ := p
    simp only [Res.bind_ok]
    cases h : env1[i]? with
    | none => trivial
    | some c =>
      dsimp only
      cases hd : isDead c with
      | true => trivial
      | false =>
        simp only [Bool.false_eq_true, if_false]
        cases h2 : f d1 c with
        | none => trivial
        | some d =>
          intro Q k
          refine ea.ok rr o h1 fun x Hs1 H1 B1 A1 rx r1 o1 g1 => ?_
          obtain ⟨v, B, A2, e1, e2, e3, e4⟩ := r1.at h (isDead_iff hd)
          obtain ⟨y, hy, q⟩ := hr Hs1 H1 x v d1 c B1 B d o1.sub rx e2 h2
          exact ⟨v, e1, q Q (k y Hs1 H1 [] A1 (.sc hy .nil) r1 (o1.less fun a => by simp only [List.count_append, List.count_nil]; omega) (g1.less fun a c => by simp only [List.count_append, List.count_nil] at c ⊢; omega))⟩
/-- a name at the left -/
def eBinL (f : D → D → Option D) (i : Nat) (mb : Exp) : Exp := fun env => if live env i then (mb env).bind fun q => match q.2[i]? with
  | some c => if isDead c then .no else (match f c q.1 with
    | some d => .ok (d, q.2)
    | none => .no)
  | none => .no else .no
theorem ev_binL {r : R2} {f : D → D → Option D} {i : Nat} (hr : OpS K r f) (eb : EvI K W tb mb) : EvI K W (tOp r (tVar i) tb) (eBinL f i mb) := by
  intro σ env F Hs H A rr o
  unfold eBinL
  cases hl : live env i with
  | false => trivial
  | true =>
  obtain ⟨v, hv⟩ := live_at rr hl
  rw [if_pos rfl]
  cases h1 : mb env with
  | no => trivial
  | ex x e => exact fun k Q => ⟨v, hv, eb.ex rr o h1 k _⟩
  | ok p =>
    obtain ⟨d1, env1⟩ := p
    simp only [Res.bind_ok]
    cases h : env1[i]? with
    | none => trivial
    | some c =>
      dsimp only
      cases hd : isDead c with
      | true => trivial
      | false =>
        simp only [Bool.false_eq_true, if_false]
        cases h2 : f c d1 with
        | none => trivial
        | some d =>
          intro Q k
          refine ⟨v, hv, eb.ok rr o h1 fun x Hs1 H1 B1 A1 rx r1 o1 g1 => ?_⟩
          obtain ⟨v', B, A2, e1, e2, e3, e4⟩ := r1.at h (isDead_iff hd)
          rw [hv] at e1; cases e1
          obtain ⟨y, hy, q⟩ := hr Hs1 H1 v x c d1 B B1 d o1.sub e2 rx h2
          exact q Q (k y Hs1 H1 [] A1 (.sc hy .nil) r1 (o1.less fun a => by simp only [List.count_append, List.count_nil]; omega) (g1.less fun a c => by simp only [List.count_append, List.count_nil] at c ⊢; omega))

/-! ### what is new -/
theorem new_lst {ys : List V} {es : List D} (r : RL K Hs H ys es []) (o : Ok Hs H C) {Q : VK} (k : ∀ v' Hs' H' B', RL K Hs' H' [v'] [.lst true es] B' → Ok Hs' H' (B' ++ C) → Go Hs H [] Hs' H' B' → Q v' H') : ∀ p, H p = none → Q (.ref p) (upd H p (.lst ys)) := fun p hp =>
  k _ Hs _ [p] (by simpa using RL.lstO (A := []) (upd_same) (r.newO hp _) RL.nil) (o.newO hp _) (Go.newO hp _)
theorem new_tup {ys : List V} {es : List D} (r : RL K Hs H ys es []) (o : Ok Hs H C) {Q : VK} (k : ∀ v' Hs' H' B', RL K Hs' H' [v'] [.tup es] B' → Ok Hs' H' (B' ++ C) → Go Hs H [] Hs' H' B' → Q v' H') : ∀ p, H p = none → Q (.ref p) (upd H p (.tup ys)) := fun p hp =>
  k _ (upd Hs p (.tup ys)) _ [] (by simpa using RL.tup (A := []) (SqT.of (upd_same)) (r.newS o hp _) RL.nil) (o.newS hp _) (Go.newS o hp _)
theorem new_sc {y : V} {e : D} (h : scD y = some e) (o : Ok Hs H C) {Q : VK} (k : ∀ v' Hs' H' B', RL K Hs' H' [v'] [e] B' → Ok Hs' H' (B' ++ C) → Go Hs H [] Hs' H' B' → Q v' H') : Q y H := k y Hs H [] (.sc h .nil) o Go.refl
/-- the items of a thing whose items own nothing -/
theorem itD_sh {c : D} {ds : List D} (h : itD (shI c) = some ds) : ∃ es, ds = shL es := by
  cases c <;> simp [shI, itD] at h <;> subst h <;> exact ⟨_, rfl⟩
theorem RL.items0 {x : V} (r : RL K Hs H [x] [shI c] B) (s : ∀ a o, Hs a = some o → H a = some o) (h : itD (shI c) = some ds) : ∃ p xs, x = .ref p ∧ (SqL K H p xs ∨ SqT K H p xs) ∧ RL K Hs H xs ds [] := by
  obtain ⟨p, xs, B', e1, e2, e3, e4⟩ := r.items s h
  obtain ⟨es, rfl⟩ := itD_sh h
  rw [e3.own0 (ownL_shL es)] at e3
  exact ⟨p, xs, e1, e2, e3⟩
theorem RL.kind_lst {x : V} (r : RL K Hs H [x] [c] B) (s : ∀ a o, Hs a = some o → H a = some o) : (∀ o ds, c = .lst o ds → ∃ p xs, x = .ref p ∧ SqL K H p xs) ∧ (∀ ds, c = .frz ds → ∃ p xs, x = .ref p ∧ SqL K H p xs) := by
  constructor
  · rintro o ds rfl
    obtain ⟨p, xs, A, e1, e2, _⟩ := r.lst_inv s
    exact ⟨p, xs, e1, .of e2⟩
  · rintro ds rfl
    cases r with
    | sc h _ => cases x <;> simp [scD] at h
    | @frz a xs es vs ds' B h1 h2 h3 => exact ⟨a, xs, rfl, ext_l s h1⟩

/-! ### list(..), tuple(..) -/
def gList (c : D) : Option D := (itD c).map (.lst true)
theorem cg_list : CaG K (fun xs H Q => ∃ p ys, xs = [.ref p] ∧ (SqL K H p ys ∨ SqT K H p ys) ∧ ∀ l, H l = none → Q (.ref l) (upd H l (.lst ys))) gList := by
  intro Hs H v c B C d r o h Q k
  unfold gList at h
  cases e : itD (shI c) with
  | none => rw [e] at h; cases h
  | some ds =>
    rw [e] at h; cases h
    obtain ⟨p, xs, rfl, hq, ri⟩ := r.items0 o.sub e
    exact ⟨p, xs, rfl, hq, new_lst ri o k⟩
def gTuple : D → Option D
  | .lst _ ds => some (.tup ds)
  | .frz ds => some (.tup ds)
  | .tup ds => some (.tup ds)
  | _ => none
theorem cg_tuple : CaG K (fun xs H Q => ∃ p ys, xs = [.ref p] ∧ ((SqL K H p ys ∧ ∀ l, H l = none → Q (.ref l) (upd H l (.tup ys))) ∨ (SqT K H p ys ∧ Q (.ref p) H))) gTuple := by
  intro Hs H v c B C d r o h Q k
  cases c with
  | lst ow ds =>
    simp only [shI, gTuple, Option.some.injEq] at h r
    subst h
    obtain ⟨p, xs, A, rfl, e2, e3, e4⟩ := r.lst_inv o.sub
    rw [e3.own0 (ownL_shL ds)] at e3
    exact ⟨p, xs, rfl, .inl ⟨.of e2, new_tup e3 o k⟩⟩
  | frz ds =>
    simp only [shI, gTuple, Option.some.injEq] at h r
    subst h
    cases r with
    | sc h _ => cases v <;> simp [scD] at h
    | @frz a xs es vs ds' B h1 h2 h3 => exact ⟨a, xs, rfl, .inl ⟨ext_l o.sub h1, new_tup h2 o k⟩⟩
  | tup ds =>
    simp only [shI, gTuple, Option.some.injEq] at h r
    subst h
    have rr := r
    obtain ⟨p, xs, rfl, h1, h2⟩ := r.tup_inv
    have e : B = [] := rr.own0 (by simp only [ownL, own, ownL_shL, Bool.or_self])
    subst e
    exact ⟨p, xs, rfl, .inr ⟨ext_t o.sub h1, k _ Hs H [] rr (by simpa using o) Go.refl⟩⟩
  | _ => simp [shI, gTuple] at h

/-! ### lists of scalars -/
def toInts : List D → Option (List Int)
  | [] => some []
  | .int i :: ds => (toInts ds).map (i :: ·)
  | _ => none
def toBls : List D → Option (List Bool)
  | [] => some []
  | .bl i :: ds => (toBls ds).map (i :: ·)
  | _ => none
theorem RL.ints : ∀ {ds : List D} {vs : List V} {B : List Addr} {ns : List Int}, RL K Hs H vs ds B → toInts ds = some ns → vs = ns.map V.int
  | [], _, _, ns, r, h => by cases r; simp [toInts] at h; subst h; rfl
  | d :: ds, vs, B, ns, r, h => by
    cases d <;> simp only [toInts, reduceCtorEq] at h
    rename_i i
    cases e : toInts ds with
    | none => rw [e] at h; cases h
    | some ms =>
      rw [e] at h
      simp at h
      subst h
      cases vs with
      | nil => cases r
      | cons v vs =>
        obtain ⟨B1, B2, _, r1, r2⟩ := RL.un r
        rw [RL.ints r2 e, r1.int]; rfl
theorem RL.bls : ∀ {ds : List D} {vs : List V} {B : List Addr} {ns : List Bool}, RL K Hs H vs ds B → toBls ds = some ns → vs = ns.map V.bl
  | [], _, _, ns, r, h => by cases r; simp [toBls] at h; subst h; rfl
  | d :: ds, vs, B, ns, r, h => by
    cases d <;> simp only [toBls, reduceCtorEq] at h
    rename_i i
    cases e : toBls ds with
    | none => rw [e] at h; cases h
    | some ms =>
      rw [e] at h
      simp at h
      subst h
      cases vs with
      | nil => cases r
      | cons v vs =>
        obtain ⟨B1, B2, _, r1, r2⟩ := RL.un r
        rw [RL.bls r2 e, r1.bl]; rfl
def lsD : D → Option (List D)
  | .lst _ ds => some ds
  | .frz ds => some ds
  | _ => none
theorem RL.lsItems {x : V} (r : RL K Hs H [x] [shI c] B) (s : ∀ a o, Hs a = some o → H a = some o) (h : lsD (shI c) = some ds) : ∃ p xs, x = .ref p ∧ SqL K H p xs ∧ RL K Hs H xs ds [] := by
  cases c with
  | lst ow es =>
    simp only [shI, lsD, Option.some.injEq] at h r
    subst h
    obtain ⟨p, xs, A, rfl, e2, e3, e4⟩ := r.lst_inv s
    rw [e3.own0 (ownL_shL es)] at e3
    exact ⟨p, xs, rfl, .of e2, e3⟩
  | frz es =>
    simp only [shI, lsD, Option.some.injEq] at h r
    subst h
    cases r with
    | sc h _ => cases x <;> simp [scD] at h
    | @frz a xs es vs ds' B h1 h2 h3 => exact ⟨a, xs, rfl, ext_l s h1, h2⟩
  | _ => simp [shI, lsD] at h
def gAll (c : D) : Option D := (lsD c).bind fun ds => (toBls ds).map fun bs => .bl (bs.all id)
def gAny (c : D) : Option D := (lsD c).bind fun ds => (toBls ds).map fun bs => .bl (bs.any id)
def gSum (c : D) : Option D := (lsD c).bind fun ds => (toInts ds).map fun bs => .int bs.sum
def maxL (ns : List Int) : Option Int := ns.max?
def gMaxL (c : D) : Option D := (lsD c).bind fun ds => (toInts ds).bind fun ns => ns.max?.map .int
def gSort (c : D) : Option D := (lsD c).bind fun ds => (toInts ds).map fun ns => .lst true ((ns.mergeSort).map .int)
theorem two_bind {α β γ : Type} {x : Option α} {f : α → Option β} {y : β} (h : x.bind f = some y) : ∃ a, x = some a ∧ f a = some y := by
  cases x with
  | none => cases h
  | some a => exact ⟨a, rfl, h⟩
theorem two_map {α β : Type} {x : Option α} {f : α → β} {y : β} (h : x.map f = some y) : ∃ a, x = some a ∧ f a = y := by
  cases x with
  | none => cases h
  | some a => exact ⟨a, rfl, Option.some.inj h⟩
theorem cg_all : CaG K (rAll K) gAll := by
  intro Hs H v c B C d r o h Q k
  obtain ⟨ds, h1, h2⟩ := two_bind (γ := Nat) h
  obtain ⟨bs, h3, rfl⟩ := two_map h2
  obtain ⟨p, xs, rfl, h4, h5⟩ := r.lsItems o.sub h1
  have := h5.bls h3
  subst this
  exact ⟨p, bs, rfl, h4, new_sc rfl o k⟩
theorem cg_any : CaG K (rAny K) gAny := by
  intro Hs H v c B C d r o h Q k
  obtain ⟨ds, h1, h2⟩ := two_bind (γ := Nat) h
  obtain ⟨bs, h3, rfl⟩ := two_map h2
  obtain ⟨p, xs, rfl, h4, h5⟩ := r.lsItems o.sub h1
  have := h5.bls h3
  subst this
  exact ⟨p, bs, rfl, h4, new_sc rfl o k⟩
theorem cg_sum : CaG K (rSum K) gSum := by
  intro Hs H v c B C d r o h Q k
  obtain ⟨ds, h1, h2⟩ := two_bind (γ := Nat) h
  obtain ⟨bs, h3, rfl⟩ := two_map h2
  obtain ⟨p, xs, rfl, h4, h5⟩ := r.lsItems o.sub h1
  have := h5.ints h3
  subst this
  exact ⟨p, bs, rfl, h4, new_sc rfl o k⟩
theorem cg_max : CaG K (rMax K) gMaxL := by
  intro Hs H v c B C d r o h Q k
  obtain ⟨ds, h1, h2⟩ := two_bind (γ := Nat) h
  obtain ⟨ns, h3, h6⟩ := two_bind (γ := Nat) h2
  obtain ⟨m, h7, rfl⟩ := two_map h6
  obtain ⟨p, xs, rfl, h4, h5⟩ := r.lsItems o.sub h1
  have := h5.ints h3
  subst this
  have hm := List.max?_eq_some_iff.mp h7
  refine ⟨p, ns, rfl, h4, List.length_pos_of_mem hm.1, fun m' h8 h9 => ?_⟩
  have : m' = m := Int.le_antisymm (hm.2 _ h8) (h9 _ hm.1)
  subst this
  exact new_sc rfl o k
theorem sort_uniq {xs ys : List Int} (h : xs.Perm ys) (h1 : xs.Pairwise (· ≤ ·)) (h2 : ys.Pairwise (· ≤ ·)) : xs = ys := h.eq_of_pairwise (fun a b _ _ p q => Int.le_antisymm p q) h1 h2
theorem cg_sort : CaG K (rSortedI K) gSort := by
  intro Hs H v c B C d r o h Q k
  obtain ⟨ds, h1, h2⟩ := two_bind (γ := Nat) h
  obtain ⟨ns, h3, rfl⟩ := two_map h2
  obtain ⟨p, xs, rfl, h4, h5⟩ := r.lsItems o.sub h1
  have := h5.ints h3
  subst this
  refine ⟨p, ns, rfl, h4, fun ns' q hp hw hq => ?_⟩
  have e : ns' = ns.mergeSort := sort_uniq (hp.trans (List.mergeSort_perm ns _).symm) hw ((List.pairwise_mergeSort (le := fun a b : Int => decide (a ≤ b)) (by intro a b c; simp; omega) (by intro a b; simp; omega) ns).imp (by simp))
  subst e
  have : RL K Hs H ((ns.mergeSort).map V.int) ((ns.mergeSort).map D.int) [] := rl_ints _
  exact new_lst this o k q hq
end
end Fl

/-! Fl: in, is of bools, chains, slices, what is walked in pairs, dicts. -/
namespace Fl
open PySem PySem.Spec PyProof.Rows L2
section
variable {K : PySem.W.Frag} {W : Wh} {σ : L2.St} {env env' : Env} {F A A' B C : List Addr} {Hs H Hs' H' : Hp} {t ta tb tc : TE} {m ma mb mc : Exp} {c d d1 d2 : D} {v : V} {vs : List V} {ds : List D} {P : List Nat}

/-! ### in, not in -/
def valD : D → Option V
  | .non => some .non
  | .bl b => some (.bl b)
  | .int i => some (.int i)
  | .str x => some (.str x)
  | _ => none
def valsD : List D → Option (List V)
  | [] => some []
  | d :: ds => (valD d).bind fun x => (valsD ds).map (x :: ·)
theorem RL.valD {x : V} (r : RL K Hs H [v] [d] B) (h : valD d = some x) : v = x ∧ flatV x = true := by
  cases d <;> simp only [Fl.valD, reduceCtorEq, Option.some.injEq] at h <;> subst h
  · cases r with
    | sc h _ => cases v <;> simp [scD] at h; exact ⟨rfl, rfl⟩
  · exact ⟨r.bl, rfl⟩
  · exact ⟨r.int, rfl⟩
  · cases r with
    | sc h _ => cases v <;> simp [scD] at h; subst h; exact ⟨rfl, rfl⟩
theorem RL.valsD : ∀ {ds : List D} {vs xs : List V} {B : List Addr}, RL K Hs H vs ds B → valsD ds = some xs → vs = xs ∧ xs.all flatV = true
  | [], _, xs, _, r, h => by cases r; simp [Fl.valsD] at h; subst h; exact ⟨rfl, rfl⟩
  | d :: ds, [], xs, _, r, h => by cases r
  | d :: ds, v :: vs, xs, B, r, h => by
    obtain ⟨B1, B2, _, r1, r2⟩ := RL.un r
    obtain ⟨x, h1, h2⟩ := two_bind (γ := Nat) (show (Fl.valD d).bind (fun x => (Fl.valsD ds).map (x :: ·)) = some xs from h)
    obtain ⟨ys, h3, rfl⟩ := two_map h2
    obtain ⟨rfl, f1⟩ := r1.valD h1
    obtain ⟨rfl, f2⟩ := RL.valsD r2 h3
    exact ⟨rfl, by simp [f1]; simpa using f2⟩
def fInG (neg : Bool) (d c : D) : Option D := (valD d).bind fun x => (itD c).bind fun ds => (valsD ds).map fun xs => .bl (if neg then !inV x xs else inV x xs)
theorem os_in (neg : Bool) : OpS K (rIn K neg) (fInG neg) := by
  intro Hs H x y d1 d2 B1 B2 d s rx ry h
  obtain ⟨u, h1, h2⟩ := two_bind (γ := Nat) h
  obtain ⟨ds, h3, h4⟩ := two_bind (γ := Nat) h2
  obtain ⟨xs, h5, rfl⟩ := two_map h4
  obtain ⟨rfl, f1⟩ := rx.valD h1
  obtain ⟨p, ys, B', rfl, hq, h6, _⟩ := ry.items s h3
  obtain ⟨rfl, f2⟩ := h6.valsD h5
  exact ⟨.bl _, rfl, fun Q q => ⟨p, ys, rfl, hq, f1, f2, q⟩⟩
def fIn := fInG false
def fNotIn := fInG true

/-! ### is True, is not False -/
def fIs : D → D → Option D
  | .bl a, .bl b => some (.bl (a == b))
  | _, _ => none
def fIsN : D → D → Option D
  | .bl a, .bl b => some (.bl (!(a == b)))
  | _, _ => none
theorem os_is : OpS K rIsB fIs := by
  intro Hs H x y d1 d2 B1 B2 d s rx ry h
  cases d1 <;> cases d2 <;> simp only [fIs, reduceCtorEq, Option.some.injEq] at h
  subst h
  refine ⟨.bl _, rfl, fun Q q => ⟨_, _, rx.bl, ry.bl, ?_⟩⟩
  rw [Bool.beq_eq_decide_eq] at q; exact q
theorem os_isN : OpS K rNotB fIsN := by
  intro Hs H x y d1 d2 B1 B2 d s rx ry h
  cases d1 <;> cases d2 <;> simp only [fIsN, reduceCtorEq, Option.some.injEq] at h
  subst h
  refine ⟨.bl _, rfl, fun Q q => ⟨_, _, rx.bl, ry.bl, ?_⟩⟩
  rw [Bool.beq_eq_decide_eq] at q; exact q

/-! ### a < b <= c -/
def eChain (f g : D → D → Option D) (ma mb mc : Exp) : Exp := fun env => (ma env).bind fun p => (mb p.2).bind fun q => match f p.1 q.1 with
  | some (.bl k) => if k then (if own q.1 then .no else (mc q.2).bind fun r => match g q.1 r.1 with
    | some d => .ok (d, r.2)
    | none => .no) else .ok (.bl false, q.2)
  | _ => .no
theorem ev_chain {r r' : R2} {f g : D → D → Option D} (hr : OpS K r f) (hg : OpS K r' g) (ea : EvI K W ta ma) (eb : EvI K W tb mb) (ec : EvI K W tc mc) : EvI K W (tChain r r' ta tb tc) (eChain f g ma mb mc) := by
  intro σ env F Hs H A rr o
  unfold eChain
  cases h1 : ma env with
  | no => trivial
  | ex x e => exact fun k Q => ea.ex rr o h1 k _
  | ok p =>
    obtain ⟨d1, env1⟩ := p
    simp only [Res.bind_ok]
    cases h2 : mb env1 with
    | no => trivial
    | ex x e => exact fun k Q => EvI.two_ex2 ea eb rr o h1 h2 k
    | ok q =>
      obtain ⟨d2, env2⟩ := q
      simp only [Res.bind_ok]
      split
      · rename_i k h3
        cases k with
        | false =>
          intro Q kk
          refine EvI.two ea eb rr o h1 h2 fun x y Hs2 H2 B1 B2 A2 rx ry r2 o2 g2 => ?_
          obtain ⟨v, hv, q⟩ := hr Hs2 H2 x y d1 d2 B1 B2 _ o2.sub rx ry h3
          have : v = .bl false := by cases v <;> simp [scD] at hv; subst hv; rfl
          subst this
          refine q _ ⟨false, rfl, ?_⟩
          simp only [Bool.false_eq_true, if_false]
          exact kk _ Hs2 H2 [] A2 (.sc rfl .nil) r2 (o2.less fun a => by simp only [List.count_append, List.count_nil]; omega) (g2.less fun a c => by simp only [List.count_append, List.count_nil] at c ⊢; omega)
        | true =>
          simp only [if_true]
          cases hw : own d2 with
          | true => trivial
          | false =>
          simp only [Bool.false_eq_true, if_false]
          cases h4 : mc env2 with
          | no => trivial
          | ex x' e =>
            intro kk Q
            refine EvI.two ea eb rr o h1 h2 fun x y Hs2 H2 B1 B2 A2 rx ry r2 o2 g2 => ?_
            obtain ⟨v, hv, q⟩ := hr Hs2 H2 x y d1 d2 B1 B2 _ o2.sub rx ry h3
            have : v = .bl true := by cases v <;> simp [scD] at hv; subst hv; rfl
            subst this
            refine q _ ⟨true, rfl, ?_⟩
            simp only [if_true]
            refine ec.ex (F := F) r2 (o2.less fun a => by simp only [List.count_append]; omega) h4 (kk.after0 (g2.less fun a c => by simp only [List.count_append]; omega)) _
          | ok w =>
            obtain ⟨d3, env3⟩ := w
            simp only [Res.bind_ok]
            cases h5 : g d2 d3 with
            | none => trivial
            | some d =>
              intro Q kk
              refine EvI.two ea eb rr o h1 h2 fun x y Hs2 H2 B1 B2 A2 rx ry r2 o2 g2 => ?_
              obtain ⟨v, hv, q⟩ := hr Hs2 H2 x y d1 d2 B1 B2 _ o2.sub rx ry h3
              have : v = .bl true := by cases v <;> simp [scD] at hv; subst hv; rfl
              subst this
              refine q _ ⟨true, rfl, ?_⟩
              simp only [if_true]
              have eB : B2 = [] := ry.own0 (by simp [hw])
              subst eB
              refine ec.ok (F := F) r2 (o2.less fun a => by simp only [List.count_append]; omega) h4 fun z Hs3 H3 B3 A3 rz r3 o3 g3 => ?_
              obtain ⟨v2, hv2, q2⟩ := hg Hs3 H3 y z d2 d3 [] B3 _ o3.sub (ry.go0 g3) rz h5
              exact q2 Q (kk v2 Hs3 H3 [] A3 (.sc hv2 .nil) r3 (o3.less fun a => by simp only [List.count_append, List.count_nil]; omega) (((g2.less (B := A2) fun a c => by simp only [List.count_append]; omega).trans g3).less fun a c => by simp only [List.count_append, List.count_nil] at c ⊢; omega))
      · trivial

/-! ### slices of lists -/
abbrev Opt := Env → Res (Option Int × Env)
def PostO (K : PySem.W.Frag) (W : Wh) (t : TO) (σ : L2.St) (F : List Addr) (Hs H : Hp) (A : List Addr) : Res (Option Int × Env) → Prop
  | .no => True
  | .ok p => ∀ Q : Option Int → Hp → Prop, (∀ Hs' H' A', ER K Hs' H' σ p.2 A' → Ok Hs' H' (F ++ A') → Go Hs H A Hs' H' A' → Q p.1 H') → t σ H Q
  | .ex x env' => ExO K W σ F Hs H A x env' → ∀ Q : Option Int → Hp → Prop, t σ H Q
def EvO (K : PySem.W.Frag) (W : Wh) (t : TO) (m : Opt) : Prop := ∀ σ env F Hs H A, ER K Hs H σ env A → Ok Hs H (F ++ A) → PostO K W t σ F Hs H A (m env)
def oN : Opt := fun env => .ok (none, env)
def oS (m : Exp) : Opt := fun env => (m env).bind fun p => match p.1 with
  | .int i => .ok (some i, p.2)
  | _ => .no
theorem eo_none : EvO K W tNoPart oN := fun σ env F Hs H A r o Q k => k Hs H A r o Go.refl
theorem eo_some (e : EvI K W t m) : EvO K W (tPart t) (oS m) := by
  intro σ env F Hs H A r o
  unfold oS
  cases h1 : m env with
  | no => trivial
  | ex x e' => exact fun k Q => e.ex r o h1 k _
  | ok p =>
    obtain ⟨d, env1⟩ := p
    simp only [Res.bind_ok]
    cases d with
    | int i => exact fun Q k => e.ok r o h1 fun v Hs1 H1 B1 A1 rv r1 o1 g1 => ⟨i, rv.int, k Hs1 H1 A1 r1 o1.un g1.un⟩
    | _ => trivial
theorem EvO.ok {t : TO} {m : Opt} {b : Option Int} (e : EvO K W t m) (r : ER K Hs H σ env A) (o : Ok Hs H (F ++ A)) (h : m env = .ok (b, env')) {Q : Option Int → Hp → Prop}
    (k : ∀ Hs' H' A', ER K Hs' H' σ env' A' → Ok Hs' H' (F ++ A') → Go Hs H A Hs' H' A' → Q b H') : t σ H Q := by
  have := e σ env F Hs H A r o
  rw [h] at this
  exact this Q k
theorem EvO.ex {t : TO} {m : Opt} (e : EvO K W t m) (r : ER K Hs H σ env A) (o : Ok Hs H (F ++ A)) {x : D} (h : m env = .ex x env') (k : ExO K W σ F Hs H A x env') (Q : Option Int → Hp → Prop) : t σ H Q := by
  have := e σ env F Hs H A r o
  rw [h] at this
  exact this k Q
def cutD (ds : List D) (lo hi : Option Int) : List D := (ds.drop (HT.sIx ds.length 0 lo)).take (HT.sIx ds.length ds.length hi - HT.sIx ds.length 0 lo)
theorem RL.drop0 : ∀ {vs : List V} {ds : List D} (n : Nat), RL K Hs H vs ds [] → RL K Hs H (vs.drop n) (ds.drop n) []
  | _, _, 0, r => r
  | [], [], n + 1, r => r
  | [], d :: ds, n + 1, r => by cases r
  | v :: vs, [], n + 1, r => by cases r
  | v :: vs, d :: ds, n + 1, r => by
    obtain ⟨B, C, e, r1, r2⟩ := RL.un r
    obtain ⟨rfl, rfl⟩ := List.append_eq_nil_iff.mp e.symm
    exact RL.drop0 n r2
theorem RL.take0 : ∀ {vs : List V} {ds : List D} (n : Nat), RL K Hs H vs ds [] → RL K Hs H (vs.take n) (ds.take n) []
  | _, _, 0, r => by simpa using RL.nil
  | [], [], n + 1, r => r
  | [], d :: ds, n + 1, r => by cases r
  | v :: vs, [], n + 1, r => by cases r
  | v :: vs, d :: ds, n + 1, r => by
    obtain ⟨B, C, e, r1, r2⟩ := RL.un r
    obtain ⟨rfl, rfl⟩ := List.append_eq_nil_iff.mp e.symm
    simpa using r1.cons (RL.take0 n r2)
theorem RL.cut {xs : List V} (r : RL K Hs H xs ds []) (lo hi : Option Int) : RL K Hs H (cutV xs lo hi) (cutD ds lo hi) [] := by
  unfold cutV cutD
  rw [r.length]
  exact (r.drop0 _).take0 _
def eSl (m : Exp) (lo hi : Opt) : Exp := fun env => (m env).bind fun p => (lo p.2).bind fun q => (hi q.2).bind fun w => match lsD (sh p.1) with
  | some ds => .ok (.lst true (cutD ds q.1 w.1), w.2)
  | none => .no
theorem RL.lsShared {x : V} {ds : List D} (r : RL K Hs H [x] [sh c] []) (s : ∀ a o, Hs a = some o → H a = some o) (h : lsD (sh c) = some ds) : ∃ p xs, x = .ref p ∧ SqL K H p xs ∧ RL K Hs H xs ds [] := by
  cases c <;> simp [sh, lsD] at h r <;> subst h
  · cases r with
    | sc h _ => cases x <;> simp [scD] at h
    | lstS h1 h2 h3 => exact ⟨_, _, rfl, .of (s _ _ h1), h2⟩
  · cases r with
    | sc h _ => cases x <;> simp [scD] at h
    | frz h1 h2 h3 => exact ⟨_, _, rfl, ext_l s h1, h2⟩
theorem ev_sl {tl th : TO} {lo hi : Opt} (e : EvI K W t m) (el : EvO K W tl lo) (eh : EvO K W th hi) : EvI K W (tSl (rSlL K) t tl th) (eSl m lo hi) := by
  intro σ env F Hs H A r o
  unfold eSl
  cases h1 : m env with
  | no => trivial
  | ex x e' => exact fun k Q => e.ex r o h1 k _
  | ok p =>
    obtain ⟨c, env1⟩ := p
    simp only [Res.bind_ok]
    cases h2 : lo env1 with
    | no => trivial
    | ex x e' => exact fun k Q => e.ok r o h1 fun v Hs1 H1 B1 A1 rv r1 o1 g1 => el.ex (r1.pool o1) o1.pool h2 (k.after0 (g1.pool o1)) _
    | ok q =>
      obtain ⟨l, env2⟩ := q
      simp only [Res.bind_ok]
      cases h3 : hi env2 with
      | no => trivial
      | ex x e' => exact fun k Q => e.ok r o h1 fun v Hs1 H1 B1 A1 rv r1 o1 g1 => el.ok (r1.pool o1) o1.pool h2 fun Hs2 H2 A2 r2 o2 g2 => eh.ex r2 o2 h3 (k.after0 ((g1.pool o1).trans g2)) _
      | ok w =>
        obtain ⟨u, env3⟩ := w
        simp only [Res.bind_ok]
        cases h4 : lsD (sh c) with
        | none => trivial
        | some ds =>
          intro Q k
          refine e.ok r o h1 fun v Hs1 H1 B1 A1 rv r1 o1 g1 => el.ok (r1.pool o1) o1.pool h2 fun Hs2 H2 A2 r2 o2 g2 => eh.ok r2 o2 h3 fun Hs3 H3 A3 r3 o3 g3 => ?_
          have s1 := ((rv.share1 o1).go0 g2).go0 g3
          obtain ⟨p, xs, rfl, q1, q2⟩ := s1.lsShared o3.sub h4
          refine ⟨p, xs, rfl, q1, new_lst (q2.cut l u) o3 fun v' Hs4 H4 B4 r4 o4 g4 => ?_⟩
          refine k v' Hs4 H4 B4 A3 r4 (r3.mono g4.hs fun a o _ h => g4.keep a o h (by simp)) o4 ?_
          have g5 : Go Hs3 H3 A3 Hs4 H4 (A3 ++ B4) := (g4.frame (F := A3)).more fun a c => by simpa using c
          exact (((g1.pool o1).trans g2).trans (g3.trans g5)).less fun a c => by simp only [List.count_append] at *; omega
def eSlV (i : Nat) (lo hi : Opt) : Exp := fun env => if live env i then (lo env).bind fun q => (hi q.2).bind fun w => match w.2[i]? with
  | some c => (match lsD (shI c) with
    | some ds => .ok (.lst true (cutD ds q.1 w.1), w.2.set i (shI c))
    | none => .no)
  | none => .no else .no
theorem lsD_nd {c : D} {ds : List D} (h : lsD (shI c) = some ds) : isDead c = false := by cases c <;> simp [shI, lsD] at h <;> rfl
theorem ev_slV {i : Nat} {tl th : TO} {lo hi : Opt} (el : EvO K W tl lo) (eh : EvO K W th hi) : EvI K W (tSl (rSlL K) (tVar i) tl th) (eSlV i lo hi) := by
  intro σ env F Hs H A r o
  unfold eSlV
  cases hl : live env i with
  | false => trivial
  | true =>
  obtain ⟨v, hv⟩ := live_at r hl
  rw [if_pos rfl]
  cases h2 : lo env with
  | no => trivial
  | ex x e' => exact fun k Q => ⟨v, hv, el.ex r o h2 k _⟩
  | ok q =>
    obtain ⟨l, env2⟩ := q
    simp only [Res.bind_ok]
    cases h3 : hi env2 with
    | no => trivial
    | ex x e' => exact fun k Q => ⟨v, hv, el.ok r o h2 fun Hs2 H2 A2 r2 o2 g2 => eh.ex r2 o2 h3 (k.after0 g2) _⟩
    | ok w =>
      obtain ⟨u, env3⟩ := w
      simp only [Res.bind_ok]
      cases h : env3[i]? with
      | none => trivial
      | some c =>
        dsimp only
        cases h4 : lsD (shI c) with
        | none => trivial
        | some ds =>
          intro Q k
          refine ⟨v, hv, el.ok r o h2 fun Hs2 H2 A2 r2 o2 g2 => eh.ok r2 o2 h3 fun Hs3 H3 A3 r3 o3 g3 => ?_⟩
          obtain ⟨v', Hs4, B1, A1, A4, e1, q1, q2, g4, p1, p2⟩ := r3.openI o3 h (lsD_nd h4)
          rw [hv] at e1; cases e1
          obtain ⟨p, xs, rfl, q3, q4⟩ := q1.lsItems q2.sub h4
          refine ⟨p, xs, rfl, q3, new_lst (q4.cut l u) q2 fun v' Hs5 H5 B5 r5 o5 g5 => ?_⟩
          refine k v' Hs5 H5 B5 A4 r5 (p1.mono g5.hs fun a o _ h => g5.keep a o h (by simp)) (o5.less fun a => by have := p2 a; simp only [List.count_append]; omega) ?_
          have g6 : Go Hs4 H3 (B1 ++ A1) Hs5 H5 ((B1 ++ A1) ++ B5) := (g5.frame (F := B1 ++ A1)).more fun a c => by simpa using c
          exact ((g2.trans g3).trans (g4.trans g6)).less fun a c => by have := p2 a; simp only [List.count_append] at *; omega
/-- xs[::-1] -/
def gRev (c : D) : Option D := (lsD c).map fun ds => .lst true ds.reverse
theorem RL.rev0 : ∀ {vs : List V} {ds : List D}, RL K Hs H vs ds [] → RL K Hs H vs.reverse ds.reverse []
  | [], [], r => r
  | [], d :: ds, r => by cases r
  | v :: vs, [], r => by cases r
  | v :: vs, d :: ds, r => by
    obtain ⟨B, C, e, r1, r2⟩ := RL.un r
    obtain ⟨rfl, rfl⟩ := List.append_eq_nil_iff.mp e.symm
    simpa using (RL.rev0 r2).app r1
def rRevL (K : PySem.W.Frag) : List V → Hp → VK → Prop := fun vs H Q => match vs with
  | [x] => ∃ a xs, x = .ref a ∧ SqL K H a xs ∧ ∀ p, H p = none → Q (.ref p) (upd H p (.lst xs.reverse))
  | _ => False
theorem cg_rev : CaG K (rRevL K) gRev := by
  intro Hs H v c B C d r o h Q k
  obtain ⟨ds, h1, rfl⟩ := two_map h
  obtain ⟨p, xs, rfl, h4, h5⟩ := r.lsItems o.sub h1
  exact ⟨p, xs, rfl, h4, new_lst h5.rev0 o k⟩

/-! ### zip, enumerate, reversed -/
theorem RL.args2 {d1 d2 : D} (r : RL K Hs H vs [d1, d2] B) : ∃ v w B1 B2, vs = [v, w] ∧ RL K Hs H [v] [d1] B1 ∧ RL K Hs H [w] [d2] B2 := r.two
def zipD (xs ys : List D) : List D := List.zipWith (fun x y => .tup [x, y]) xs ys
theorem gives_pair {Hs0 : Hp} (H0 : Hp) {J : It} {fx fy : Nat → Option V} {es : List D} {G : Hp → Prop} (hl : ∀ i d, es[i]? = some d → ∃ x y, d = .tup [x, y] ∧ ∀ u w, fx i = some u → fy i = some w → RL K Hs0 H0 [u] [x] [] ∧ RL K Hs0 H0 [w] [y] []) (wk : Walk J es.length G (YPair fx fy))
    (hG : ∀ Hs H : Hp, (∀ a o, Hs0 a = some o → Hs a = some o) → (∀ a o, Hs a = some o → H a = some o) → G H) : Gives K J es Hs0 := by
  refine ⟨G, _, wk, hG, fun i d Hs H v H' hd e s y => ?_⟩
  obtain ⟨T, x, w, rfl, hT, rfl, hx, hy⟩ := y
  obtain ⟨dx, dy, rfl, q⟩ := hl i d hd
  obtain ⟨q1, q2⟩ := q x w hx hy
  have o : Ok Hs H [] := ⟨s, fun a => by simp, fun a c => by simp at c, fun a c => by simp at c⟩
  have r1 : RL K Hs H [x, w] [dx, dy] [] := (q1.mono (H' := H) e fun a o c => by simp at c).cons (q2.mono (H' := H) e fun a o c => by simp at c)
  refine ⟨upd Hs T (.tup [x, w]), Go.newS o hT _, (o.newS hT _).sub, ?_⟩
  simpa using RL.tup (A := []) (SqT.of (upd_same)) (r1.newS o hT _) RL.nil
def iZ (ms : Arg) : Itm := fun env => (ms env).bind fun p => match p.1 with
  | [c1, c2] => (match lsD (sh c1), lsD (sh c2) with
    | some xs, some ys => .ok (zipD xs ys, p.2)
    | _, _ => .no)
  | _ => .no
theorem RL.lsShS {x : V} {ds : List D} (r : RL K Hs H [x] [sh c] B) (h : lsD (sh c) = some ds) : ∃ p xs, x = .ref p ∧ SqL K Hs p xs ∧ RL K Hs H xs ds [] := by
  cases c <;> simp [sh, lsD] at h r <;> subst h
  · cases r with
    | sc h _ => cases x <;> simp [scD] at h
    | lstS h1 h2 h3 => exact ⟨_, _, rfl, .of h1, h2⟩
  · cases r with
    | sc h _ => cases x <;> simp [scD] at h
    | frz h1 h2 h3 => exact ⟨_, _, rfl, h1, h2⟩
theorem RL.look {i : Nat} {u : V} (r : RL K Hs H vs ds []) (h : vs[i]? = some u) (hd : ds[i]? = some d) : RL K Hs H [u] [d] [] := by
  obtain ⟨w, h1, h2⟩ := r.at0 hd
  rw [h] at h1; cases h1
  exact h2
theorem zip_items {xs ys : List D} {i : Nat} (h : (zipD xs ys)[i]? = some d) : ∃ x y, d = .tup [x, y] ∧ xs[i]? = some x ∧ ys[i]? = some y := by
  unfold zipD at h
  rw [List.getElem?_zipWith] at h
  cases hx : xs[i]? <;> cases hy : ys[i]? <;> simp [hx, hy] at h
  exact ⟨_, _, h.symm, rfl, rfl⟩
theorem it_Z {ta : TA} {ms : Arg} (e : EvA K W ta ms) : ItI K W (iZip K ta) (iZ ms) := by
  intro σ env F Hs H A r o
  unfold iZ
  cases h1 : ms env with
  | no => trivial
  | ex x e' => exact fun k R => e.ex r o h1 k _
  | ok p =>
    obtain ⟨cs, env1⟩ := p
    simp only [Res.bind_ok]
    split
    · rename_i c1 c2
      split
      · rename_i xs ys hx hy
        intro R k
        refine e.ok r o h1 fun vs Hs2 H2 B2 A2 rv r2 o2 g2 => ?_
        obtain ⟨v, w, B1, B3, rfl, q1, q2⟩ := (rv.shareL o2).two
        obtain ⟨p, us, rfl, q3, q4⟩ := q1.lsShS hx
        obtain ⟨p', us', rfl, q5, q6⟩ := q2.lsShS hy
        refine ⟨p, p', us, us', rfl, ext_l o2.pool.sub q3, ext_l o2.pool.sub q5, k _ _ _ A2 ?_ (r2.pool o2) o2.pool (g2.pool o2)⟩
        refine gives_pair H2 (fun i d hd => ?_) (walk_zip (n := (zipD xs ys).length) (by simp [zipD, q4.length, q6.length])) fun Hs H e s => ⟨ext_l s (ext_l e q3), ext_l s (ext_l e q5)⟩
        obtain ⟨x, y, rfl, hx, hy⟩ := zip_items hd
        exact ⟨x, y, rfl, fun u w hu hw => ⟨q4.look hu hx, q6.look hw hy⟩⟩
      · trivial
    · trivial
def enumD (xs : List D) : List D := xs.mapIdx fun i d => .tup [.int (i : Nat), d]
def iE (ms : Arg) : Itm := fun env => (ms env).bind fun p => match p.1 with
  | [c1] => (match lsD (sh c1) with
    | some xs => .ok (enumD xs, p.2)
    | _ => .no)
  | _ => .no
theorem it_E {ta : TA} {ms : Arg} (e : EvA K W ta ms) : ItI K W (iEnum K ta) (iE ms) := by
  intro σ env F Hs H A r o
  unfold iE
  cases h1 : ms env with
  | no => trivial
  | ex x e' => exact fun k R => e.ex r o h1 k _
  | ok p =>
    obtain ⟨cs, env1⟩ := p
    simp only [Res.bind_ok]
    split
    · rename_i c1
      split
      · rename_i xs hx
        intro R k
        refine e.ok r o h1 fun vs Hs2 H2 B2 A2 rv r2 o2 g2 => ?_
        obtain ⟨v, rfl, q1⟩ := (rv.shareL o2).one
        obtain ⟨p, us, rfl, q3, q4⟩ := q1.lsShS hx
        refine ⟨p, us, rfl, ext_l o2.pool.sub q3, k _ _ _ A2 ?_ (r2.pool o2) o2.pool (g2.pool o2)⟩
        refine gives_pair H2 (fun i d hd => ?_) (show Walk (Ite K p) (enumD xs).length _ _ from by rw [show (enumD xs).length = us.length by simp [enumD, q4.length]]; exact walk_enum) fun Hs H e s => ext_l s (ext_l e q3)
        unfold enumD at hd
        rw [List.getElem?_mapIdx] at hd
        cases hx : xs[i]? with
        | none => rw [hx] at hd; cases hd
        | some x =>
          rw [hx] at hd; cases hd
          exact ⟨_, x, rfl, fun u w hu hw => ⟨by cases hu; exact .sc rfl .nil, q4.look hw hx⟩⟩
      · trivial
    · trivial
def iRv (ms : Arg) : Itm := fun env => (ms env).bind fun p => match p.1 with
  | [c1] => (match lsD (sh c1) with
    | some xs => .ok (xs.reverse, p.2)
    | _ => .no)
  | _ => .no
theorem it_Rv {ta : TA} {ms : Arg} (e : EvA K W ta ms) : ItI K W (iRev K ta) (iRv ms) := by
  intro σ env F Hs H A r o
  unfold iRv
  cases h1 : ms env with
  | no => trivial
  | ex x e' => exact fun k R => e.ex r o h1 k _
  | ok p =>
    obtain ⟨cs, env1⟩ := p
    simp only [Res.bind_ok]
    split
    · rename_i c1
      split
      · rename_i xs hx
        intro R k
        refine e.ok r o h1 fun vs Hs2 H2 B2 A2 rv r2 o2 g2 => ?_
        obtain ⟨v, rfl, q1⟩ := (rv.shareL o2).one
        obtain ⟨p, us, rfl, q3, q4⟩ := q1.lsShS hx
        refine ⟨p, us, rfl, ext_l o2.pool.sub q3, k _ _ _ A2 ?_ (r2.pool o2) o2.pool (g2.pool o2)⟩
        refine ⟨fun H => SqL K H p us, _, by rw [List.length_reverse, ← q4.length]; exact walk_rev, fun Hs H e s => ext_l s (ext_l e q3), fun i d Hs H3 x H' hd e s y => ?_⟩
        obtain ⟨rfl, hi⟩ := y
        have hlt : i < us.length := by
          rw [q4.length]
          have := (List.getElem?_eq_some_iff.mp hd).1
          simpa using this
        rw [List.getElem?_reverse (by rw [← q4.length]; exact hlt), ← q4.length] at hd
        exact ⟨Hs, Go.refl, s, (q4.look hi hd).mono e fun a o c => by simp at c⟩
      · trivial
    · trivial

/-! ### dicts -/
instance decKey (k : Key) (ks : List Key) : Decidable (k ∈ ks) := @List.instDecidableMemOfLawfulBEq _ instBEqOfDecidableEq _ k ks
def keyOf : D → Option Key
  | .int i => some (.inl i)
  | .str x => some (.inr x)
  | _ => none
def keyD : Key → D
  | .inl i => .int i
  | .inr x => .str x
theorem RL.key {k : Key} (r : RL K Hs H [v] [d] B) (h : keyOf d = some k) : v = kV k := by
  cases d <;> simp only [keyOf, reduceCtorEq, Option.some.injEq] at h <;> subst h
  · exact r.int
  · cases r with
    | sc h _ => cases v <;> simp [scD] at h; subst h; rfl
def eDict0 : Exp := fun env => .ok (.dct true [] [], env)
theorem ev_dict0 : EvI K W tDNewK eDict0 := by
  intro σ env F Hs H A r o Q k p hp
  refine k _ Hs _ [p] A ?_ (r.newO hp _) (o.newO hp _) (Go.newO hp _)
  simpa using RL.dct (K := K) (Hs := Hs) (kvs := []) (upd_same) rfl RL.nil RL.nil
def valK : List Key → List D → Key → Option D
  | k :: ks, d :: ds, j => if k = j then some d else valK ks ds j
  | _, _, _ => none
def repK : List Key → List D → Key → D → List D
  | k :: ks, d :: ds, j, e => (if k = j then e else d) :: repK ks ds j e
  | _, _, _, _ => []
def putD (ks : List Key) (ds : List D) (k : Key) (d : D) : List Key × List D := if k ∈ ks then (ks, repK ks ds k d) else (ks ++ [k], ds ++ [d])
theorem any_key {kvs : List (Key × V)} {k : Key} : (kvs.any fun kv => decide (kv.1 = k)) = decide (k ∈ kvs.map Prod.fst) := by
  induction kvs with
  | nil => rfl
  | cons a l ih =>
    simp only [List.any_cons, ih, List.map_cons, List.mem_cons, Bool.decide_or]
    congr 1
    simp [eq_comm]
theorem RL.valK : ∀ {kvs : List (Key × V)} {ds : List D} {B : List Addr} {k : Key} {d : D}, RL K Hs H (kvs.map Prod.snd) ds B → Fl.valK (kvs.map Prod.fst) ds k = some d → ∃ v B', valV kvs k = some v ∧ RL K Hs H [v] [d] B' ∧ ∀ a, B'.count a ≤ B.count a
  | [], ds, _, k, d, r, h => by cases ds <;> simp [Fl.valK] at h
  | (j, v) :: kvs, [], _, k, d, r, h => by simp [Fl.valK] at h
  | (j, v) :: kvs, e :: ds, B, k, d, r, h => by
    obtain ⟨B1, B2, rfl, r1, r2⟩ := RL.un r
    simp only [List.map_cons, Fl.valK] at h
    by_cases hj : j = k
    · rw [if_pos hj] at h; cases h
      exact ⟨v, B1, valV_pos hj, r1, fun a => by rw [List.count_append]; omega⟩
    · rw [if_neg hj] at h
      obtain ⟨w, B', h1, h2, h3⟩ := RL.valK r2 h
      exact ⟨w, B', (valV_neg hj).trans h1, h2, fun a => by have := h3 a; rw [List.count_append]; omega⟩
theorem RL.repK {v : V} (rv : RL K Hs H [v] [d] []) : ∀ {kvs : List (Key × V)} {ds : List D} {B : List Addr} {k : Key}, RL K Hs H (kvs.map Prod.snd) ds B → ∃ B', RL K Hs H ((kvs.map fun kv => if kv.1 = k then (kv.1, v) else kv).map Prod.snd) (Fl.repK (kvs.map Prod.fst) ds k d) B' ∧ ∀ a, B'.count a ≤ B.count a
  | [], ds, _, k, r => by cases r; exact ⟨[], .nil, fun _ => Nat.le_refl _⟩
  | (j, u) :: kvs, [], _, k, r => by cases r
  | (j, u) :: kvs, e :: ds, B, k, r => by
    obtain ⟨B1, B2, rfl, r1, r2⟩ := RL.un r
    obtain ⟨B', h1, h2⟩ := RL.repK rv (k := k) r2
    simp only [List.map_cons, Fl.repK]
    by_cases hj : j = k
    · rw [if_pos hj, if_pos hj]
      exact ⟨[] ++ B', rv.cons h1, fun a => by have := h2 a; simp only [List.nil_append, List.count_append]; omega⟩
    · rw [if_neg hj, if_neg hj]
      exact ⟨B1 ++ B', r1.cons h1, fun a => by have := h2 a; simp only [List.count_append]; omega⟩
theorem rep_fst {kvs : List (Key × V)} {k : Key} {v : V} : (kvs.map fun kv => if kv.1 = k then (kv.1, v) else kv).map Prod.fst = kvs.map Prod.fst := by
  induction kvs with
  | nil => rfl
  | cons a l ih =>
    simp only [List.map_cons, ih]
    congr 1
    split <;> rfl
theorem RL.putK {v : V} {kvs : List (Key × V)} {ds : List D} {B : List Addr} {k : Key} (rv : RL K Hs H [v] [d] []) (r : RL K Hs H (kvs.map Prod.snd) ds B) :
    (putK kvs k v).map Prod.fst = (putD (kvs.map Prod.fst) ds k d).1 ∧ ∃ B', RL K Hs H ((putK kvs k v).map Prod.snd) (putD (kvs.map Prod.fst) ds k d).2 B' ∧ ∀ a, B'.count a ≤ B.count a := by
  unfold L2.putK putD
  rw [any_key]
  by_cases h : k ∈ kvs.map Prod.fst
  · simp only [h, decide_true, if_true]
    exact ⟨rep_fst, RL.repK rv r⟩
  · simp only [h, decide_false, Bool.false_eq_true, if_false, List.map_append, List.map_cons, List.map_nil]
    exact ⟨trivial, _, r.app rv, fun a => by simp⟩
def eDGetV (i : Nat) (mk : Exp) : Exp := fun env => if live env i then (mk env).bind fun q => match q.2[i]?, keyOf q.1 with
  | some (.dct _ ks ds), some k => (match valK ks ds k with
    | some d => if own d then .no else .ok (d, q.2)
    | none => .no)
  | _, _ => .no else .no
theorem RL.dct_inv {x : V} {ow : Bool} {ks : List Key} {ds : List D} (r : RL K Hs H [x] [.dct ow ks ds] B) (s : ∀ a o, Hs a = some o → H a = some o) : ∃ p kvs A, x = .ref p ∧ H p = some (.dK kvs) ∧ kvs.map Prod.fst = ks ∧ RL K Hs H (kvs.map Prod.snd) ds A ∧ ∀ a, A.count a ≤ B.count a := by
  cases r with
  | sc h _ => cases x <;> simp [scD] at h
  | @dct a kvs ks' es A vs ds' B' h hk h2 h3 => exact ⟨a, kvs, A, rfl, h, hk, h2, fun a => by rw [List.count_cons, List.count_append]; omega⟩
  | @dctS a kvs ks' es vs ds' B' h hk h2 h3 => exact ⟨a, kvs, [], rfl, s _ _ h, hk, h2, fun a => by simp⟩
theorem ev_dgetV {i : Nat} (e : EvI K W tb mb) : EvI K W (tDGet (tVar i) tb) (eDGetV i mb) := by
  intro σ env F Hs H A r o
  unfold eDGetV
  cases hl : live env i with
  | false => trivial
  | true =>
  obtain ⟨v, hv⟩ := live_at r hl
  rw [if_pos rfl]
  cases h1 : mb env with
  | no => trivial
  | ex x e' => exact fun k Q => ⟨v, hv, e.ex r o h1 k _⟩
  | ok p =>
    obtain ⟨dk, env1⟩ := p
    simp only [Res.bind_ok]
    split
    · rename_i ow ks ds k hc hk
      split
      · rename_i d hd
        cases hw : own d with
        | true => trivial
        | false =>
          simp only [Bool.false_eq_true, if_false]
          intro Q kk
          refine ⟨v, hv, e.ok r o h1 fun y Hs1 H1 B1 A1 ry r1 o1 g1 => ?_⟩
          obtain ⟨v', B, A2, e1, e2, e3, e4⟩ := r1.at hc (by simp)
          rw [hv] at e1; cases e1
          obtain ⟨p, kvs, A3, rfl, f1, rfl, f3, f4⟩ := e2.dct_inv o1.sub
          obtain ⟨w, B', f5, f6, f7⟩ := f3.valK hd
          have eB := f6.own0 (by simp [hw])
          subst eB
          refine ⟨p, w, rfl, .inl ⟨kvs, k, .inl f1, ry.key hk, f5.symm⟩, kk w Hs1 H1 [] A1 f6 r1 (o1.less fun a => by simp only [List.count_append, List.count_nil]; omega) (g1.less fun a c => by simp only [List.count_append, List.count_nil] at c ⊢; omega)⟩
      · trivial
    · trivial
def eDInV (neg : Bool) (mk : Exp) (i : Nat) : Exp := fun env => (mk env).bind fun q => match q.2[i]?, keyOf q.1 with
  | some (.dct _ ks _), some k => .ok (.bl (if neg then !decide (k ∈ ks) else decide (k ∈ ks)), q.2)
  | _, _ => .no
theorem val_some {kvs : List (Key × V)} {k : Key} : (valV kvs k).isSome = decide (k ∈ kvs.map Prod.fst) := by rw [← valV_any, any_key]
theorem ev_dinV {i : Nat} (e : EvI K W tb mb) : EvI K W (tDIn tb (tVar i)) (eDInV false mb i) ∧ EvI K W (tDNotIn tb (tVar i)) (eDInV true mb i) := by
  constructor
  all_goals
    intro σ env F Hs H A r o
    unfold eDInV
    cases h1 : mb env with
    | no => trivial
    | ex x e' => exact fun k Q => e.ex r o h1 k _
    | ok p =>
      obtain ⟨dk, env1⟩ := p
      simp only [Res.bind_ok]
      split
      · rename_i ow ks ds k hc hk
        intro Q kk
        refine e.ok r o h1 fun y Hs1 H1 B1 A1 ry r1 o1 g1 => ?_
        obtain ⟨v', B, A2, e1, e2, e3, e4⟩ := r1.at hc (by simp)
        obtain ⟨p, kvs, A3, rfl, f1, rfl, f3, f4⟩ := e2.dct_inv o1.sub
        refine ⟨_, e1, p, _, rfl, .inl ⟨kvs, k, .inl f1, ry.key hk, rfl⟩, ?_⟩
        rw [val_some]
        exact kk _ Hs1 H1 [] A1 (.sc rfl .nil) r1 (o1.less fun a => by simp only [List.count_append, List.count_nil]; omega) (g1.less fun a c => by simp only [List.count_append, List.count_nil] at c ⊢; omega)
      · trivial
/-- d[k] = v; what is put in is shared -/
def sDPutV (i : Nat) (me mi : Exp) : Stm := fun env => match me env with
  | .no => .no
  | .ex x e => .ex x e
  | .ok p => if live p.2 i then (match mi p.2 with
    | .no => .no
    | .ex x e => .ex x e
    | .ok q => match keyOf q.1, q.2[i]? with
      | some k, some (.dct true ks ds) => if ks.length < 100000 then .nx (q.2.set i (.dct true (putD ks ds k (sh p.1)).1 (putD ks ds k (sh p.1)).2)) else .no
      | _, _ => .no) else .no
theorem RL.dctO_inv {x : V} {ks : List Key} {ds : List D} (r : RL K Hs H [x] [.dct true ks ds] B) : ∃ p kvs A, x = .ref p ∧ H p = some (.dK kvs) ∧ kvs.map Prod.fst = ks ∧ RL K Hs H (kvs.map Prod.snd) ds A ∧ B = p :: A := by
  cases r with
  | sc h _ => cases x <;> simp [scD] at h
  | @dct a kvs ks' es A vs ds' B' h hk h2 h3 => cases h3; exact ⟨a, kvs, A, rfl, h, hk, h2, by simp⟩
theorem st_dputV {i : Nat} {te ti : TE} {me mi : Exp} (e : EvI K W te me) (ei : EvI K W ti mi) : StI K W P (sDPut (tVar i) ti te) (sDPutV i me mi) := by
  intro σ env F Hs H A r o D
  unfold sDPutV
  cases h1 : me env with
  | no => trivial
  | ex x e' => exact fun k => e.ex r o h1 k.exO _
  | ok p =>
    obtain ⟨d, env1⟩ := p
    dsimp only
    cases hl : live env1 i with
    | false => trivial
    | true =>
    rw [if_pos rfl]
    cases h2 : mi env1 with
    | no => trivial
    | ex x e' =>
      intro k
      refine e.ok r o h1 fun v Hs1 H1 B1 A1 rv r1 o1 g1 => ?_
      obtain ⟨w, hw⟩ := live_at r1 hl
      exact ⟨w, hw, ei.ex r1 o1.un h2 (k.exO.after0 g1.un) _⟩
    | ok q =>
      obtain ⟨d2, env2⟩ := q
      dsimp only
      split
      · rename_i kk ks ds hk hc
        refine iteP (fun hz => ?_) fun _ => trivial
        intro k
        refine e.ok r o h1 fun v Hs1 H1 B1 A1 rv r1 o1 g1 => ?_
        obtain ⟨w, hw⟩ := live_at r1 hl
        refine ⟨w, hw, ei.ok (r1.pool o1) o1.pool h2 fun y Hs2 H2 B2 A2 ry r2 o2 g2 => ?_⟩
        have hlt := (List.getElem?_eq_some_iff.mp hc).1
        obtain ⟨w', B0, A0, e1, e2, e3, e4⟩ := r2.at hc (by simp)
        rw [hw] at e1; cases e1
        obtain ⟨p, kvs, Ax, rfl, hp, hks, hx, rfl⟩ := e2.dctO_inv
        subst hks
        have rv2 : RL K Hs2 H2 [v] [sh d] [] := (rv.share1 o1).go0 g2
        have oo : Ok Hs2 H2 (p :: (Ax ++ (F ++ A0))) := o2.less fun a => by have := e4 a; simp only [List.count_cons, List.count_append] at *; omega
        have np := oo.nd p
        simp only [List.count_cons, List.count_append, beq_self_eq_true, if_true] at np
        obtain ⟨s0, A', s1, s2⟩ := RL.putK (k := kk) (rv2.wr (p := p) (by simp) (.dK (putK kvs kk v))) (hx.wr (p := p) (x := .dK (putK kvs kk v)) (by omega))
        have rl : RL K Hs2 (upd H2 p (.dK (putK kvs kk v))) [.ref p] [.dct true (putD (kvs.map Prod.fst) ds kk (sh d)).1 (putD (kvs.map Prod.fst) ds kk (sh d)).2] (p :: A') := by simpa using RL.dct upd_same s0 s1 RL.nil
        obtain ⟨A3, p1, p2⟩ := ER.give (e3.wr (p := p) (by omega) (.dK (putK kvs kk v))) rl hw hlt
        refine ⟨p, _, rfl, .inl ⟨kvs, kk, hp, ry.key hk, Nat.lt_of_lt_of_le (show kvs.length < 100000 by simpa using hz) (by decide), rfl⟩, ?_⟩
        refine k σ Hs2 _ A3 p1 ((oo.wr (A := A') (B := Ax) s2).less fun a => by have := p2 a; simp only [List.count_cons, List.count_append] at *; omega) ?_ Pin.refl
        have g3 : Go Hs H A Hs2 H2 (p :: (Ax ++ A0)) := ((g1.pool o1).trans g2).less fun a c => by have := e4 a; simp only [List.count_cons, List.count_append] at *; omega
        exact (g3.trans (Go.wr (by simp) _)).less fun a c => by have := p2 a; have := s2 a; simp only [List.count_cons, List.count_append] at *; omega
      · trivial
/-- list(d) -/
def gKeys : D → Option D
  | .dct _ ks _ => some (.lst true (ks.map keyD))
  | _ => none
theorem rl_keys : ∀ kvs : List (Key × V), RL K Hs H (kvs.map fun kv => kV kv.1) ((kvs.map Prod.fst).map keyD) []
  | [] => .nil
  | (.inl i, v) :: kvs => .sc rfl (rl_keys kvs)
  | (.inr x, v) :: kvs => .sc rfl (rl_keys kvs)
theorem cg_keys : CaG K rListD gKeys := by
  intro Hs H v c B C d r o h Q k
  cases c with
  | dct ow ks ds =>
    simp only [shI, gKeys, Option.some.injEq] at h r
    subst h
    obtain ⟨p, kvs, A, rfl, f1, rfl, f3, f4⟩ := r.dct_inv o.sub
    exact ⟨p, kvs, rfl, f1, new_lst (rl_keys kvs) o k⟩
  | _ => simp [shI, gKeys] at h
end
end Fl

/-! Fl: the rules of FlP and FlQ by syntax, and for simp. -/
namespace Fl
open PySem PySem.Spec PyProof.Rows L2
/-- a constant of the module -/
structure Con (K : PySem.W.Frag) (mg : Str → Option Value) (x : Str) (d : D) : Prop where
  ex : ∃ u v, mg x = some u ∧ RelV v u ∧ ∀ Hs H, RL K Hs H [v] [d] []
theorem ev_k {K : PySem.W.Frag} {W : Wh} {v : V} {d : D} (h : ∀ Hs H, RL K Hs H [v] [d] []) : EvI K W (tC v) (eC d) := fun σ env F Hs H A r o Q k => k v Hs H [] A (h Hs H) r (by simpa using o) (by simpa using Go.refl)
theorem ie_con {X : Cx} {W : Wh} {x : Str} {pos : Pos} {d : D} (c : Con X.K X.mg x d) (hg : Gl X x := by rfl) (hd : (x == ("__debug__" : Str)) = false := by decide) : IE X W (.Name x pos) (eC d) := by
  obtain ⟨u, v, h1, h2, h3⟩ := c.ex
  exact ⟨_, pe_glob hg h1 h2 hd, ev_k h3⟩
theorem con_int {K : PySem.W.Frag} {mg : Str → Option Value} {x : Str} {i : Int} {t : Tok} (h : mg x = some (.int i t)) : Con K mg x (.int i) := ⟨_, .int i, h, ⟨t, rfl⟩, fun _ _ => .sc rfl .nil⟩
theorem con_str {K : PySem.W.Frag} {mg : Str → Option Value} {x y : Str} {t : Tok} (h : mg x = some (.str y t)) : Con K mg x (.str y) := ⟨_, .str y, h, ⟨t, rfl⟩, fun _ _ => .sc rfl .nil⟩
inductive Scs : List D → List V → List Value → Prop
  | nil : Scs [] [] []
  | int {i t ds vs us} : Scs ds vs us → Scs (.int i :: ds) (.int i :: vs) (.int i t :: us)
  | str {i t ds vs us} : Scs ds vs us → Scs (.str i :: ds) (.str i :: vs) (.str i t :: us)
theorem Scs.vals {ds : List D} {vs : List V} {us : List Value} (h : Scs ds vs us) : Vals vs us := by
  induction h with
  | nil => exact .nil
  | int _ ih => exact .cons ⟨_, rfl⟩ ih
  | str _ ih => exact .cons ⟨_, rfl⟩ ih
theorem Scs.rl {K : PySem.W.Frag} {Hs H : Hp} {ds : List D} {vs : List V} {us : List Value} (h : Scs ds vs us) : RL K Hs H vs ds [] := by
  induction h with
  | nil => exact .nil
  | int _ ih => exact .sc rfl ih
  | str _ ih => exact .sc rfl ih
theorem con_tup {K : PySem.W.Frag} {mg : Str → Option Value} {x : Str} {a : Addr} {td : Option Addr} {ts : Array (Option Value)} {n : Nat} {ds : List D} {vs : List V} {us : List Value} (h : mg x = some (.ref a)) (l : K.lookup a = some ⟨.type "tuple", td, .seq us.toArray n, ts⟩) (s : Scs ds vs us) (hz : us.length ≤ 1000) : Con K mg x (.tup ds) :=
  ⟨_, .ref a, h, rfl, fun Hs H => by
    have : SqT K Hs a vs := .inr ⟨_, us.toArray, n, l, rfl, rfl, Nat.le_trans (show us.toArray.size ≤ 1000 by simpa using hz) (by decide), by simpa using s.vals⟩
    simpa using RL.tup (A := []) this s.rl RL.nil⟩
def gStr : D → Option D
  | .int i => if i.natAbs.log2 < 1920 then some (.str (toString i)) else none
  | _ => none
theorem cg_str {K : PySem.W.Frag} : CaG K (fun xs H Q => ∃ i, xs = [.int i] ∧ i.natAbs.log2 < 1920 ∧ Q (.str (toString i)) H) gStr := by
  intro Hs H v c B C d r o h Q k
  cases c with
  | int i =>
    simp only [shI, gStr] at h r
    by_cases hz : i.natAbs.log2 < 1920
    · rw [if_pos hz] at h; cases h
      exact ⟨i, by rw [r.int], hz, new_sc rfl o k⟩
    · rw [if_neg hz] at h; cases h
  | _ => simp [shI, gStr] at h
def IO (X : Cx) (W : Wh) (e : Option Expr) (m : Opt) : Prop := ∃ t, PO X e t ∧ EvO X.K W t m
section
variable {X : Cx} {W : Wh} {P : List Nat} {a b c e tg : Expr} {es : List Expr} {ma mb mc m : Exp} {ms : Arg} {pos p : Pos} {x : Str} {bm bn : Tst} {lo hi : Option Expr} {ol oh : Opt}
theorem io_none : IO X W none oN := ⟨_, po_none, eo_none⟩
theorem io_some (h : IE X W e m) : IO X W (some e) (oS m) := let ⟨_, h1, h2⟩ := h; ⟨_, po_some h1, eo_some h2⟩
/-! built-ins of one thing: a class's call, a function's call -/
theorem ie_ty1 {T : String} {f : Str} {r : List V → Hp → VK → Prop} {g : D → Option D} (hc : CallR X (.type T) r) (cg : CaG X.K r g) (hb : bootBuiltins f = some (.type T)) (hm : X.mg f = none) (ha : IE X W a m) (hg : Gl X f := by rfl)
    (hnn : f ≠ "__name__" := by decide) (hdb : (f == ("__debug__" : Str)) = false := by decide) (he : starEach (a :: []) X.env = (false, eval a X.env) :: starEach [] X.env := by rfl) (hpl : (backTo pos (starEach [] X.env)).any (·.1) = false := by rfl) :
    IE X W (.Call (.Name f p) [a] [] pos) (eG1 g m) := let ⟨_, h1, h2⟩ := ha; ⟨_, pe_callTy hc hg hm hb (pa_cons h1 pa_nil he) hnn hdb he hpl, ev_g1 cg h2⟩
theorem ie_ty1V {T : String} {f : Str} {r : List V → Hp → VK → Prop} {g : D → Option D} {py : Pos} (i : Nat) (hc : CallR X (.type T) r) (cg : CaG X.K r g) (hb : bootBuiltins f = some (.type T)) (hm : X.mg f = none) (hg : Gl X f := by rfl)
    (hN : X.N[i]? = some x := by rfl) (hv : Vis X.env.scope x := by first | exact Or.inl rfl | exact Or.inr (Or.inl rfl) | exact Or.inr (Or.inr rfl)) (hd : (x == ("__debug__" : Str)) = false := by decide) (hcd : (x == ("__classdict__" : Str)) = false := by decide)
    (hnn : f ≠ "__name__" := by decide) (hdb : (f == ("__debug__" : Str)) = false := by decide) (he : starEach (.Name x py :: []) X.env = (false, eval (.Name x py) X.env) :: starEach [] X.env := by rfl) (hpl : (backTo pos (starEach [] X.env)).any (·.1) = false := by rfl) :
    IE X W (.Call (.Name f p) [.Name x py] [] pos) (eG1V g i) := ⟨_, pe_callTy hc hg hm hb (pa_cons (pe_var hN hv hd hcd) pa_nil he) hnn hdb he hpl, ev_g1V cg⟩
theorem ie_fn1 {T : String} {f : Str} {r : List V → Hp → VK → Prop} {g : D → Option D} (hc : CallR X (.builtin T) r) (cg : CaG X.K r g) (hb : bootBuiltins f = some (.builtin T)) (hm : X.mg f = none) (ha : IE X W a m) (hg : Gl X f := by rfl)
    (hnn : f ≠ "__name__" := by decide) (hdb : (f == ("__debug__" : Str)) = false := by decide) (he : starEach (a :: []) X.env = (false, eval a X.env) :: starEach [] X.env := by rfl) (hpl : (backTo pos (starEach [] X.env)).any (·.1) = false := by rfl) :
    IE X W (.Call (.Name f p) [a] [] pos) (eG1 g m) := let ⟨_, h1, h2⟩ := ha; ⟨_, pe_callB hc hg hm hb (pa_cons h1 pa_nil he) hnn hdb he hpl, ev_g1 cg h2⟩
theorem ie_fn1V {T : String} {f : Str} {r : List V → Hp → VK → Prop} {g : D → Option D} {py : Pos} (i : Nat) (hc : CallR X (.builtin T) r) (cg : CaG X.K r g) (hb : bootBuiltins f = some (.builtin T)) (hm : X.mg f = none) (hg : Gl X f := by rfl)
    (hN : X.N[i]? = some x := by rfl) (hv : Vis X.env.scope x := by first | exact Or.inl rfl | exact Or.inr (Or.inl rfl) | exact Or.inr (Or.inr rfl)) (hd : (x == ("__debug__" : Str)) = false := by decide) (hcd : (x == ("__classdict__" : Str)) = false := by decide)
    (hnn : f ≠ "__name__" := by decide) (hdb : (f == ("__debug__" : Str)) = false := by decide) (he : starEach (.Name x py :: []) X.env = (false, eval (.Name x py) X.env) :: starEach [] X.env := by rfl) (hpl : (backTo pos (starEach [] X.env)).any (·.1) = false := by rfl) :
    IE X W (.Call (.Name f p) [.Name x py] [] pos) (eG1V g i) := ⟨_, pe_callB hc hg hm hb (pa_cons (pe_var hN hv hd hcd) pa_nil he) hnn hdb he hpl, ev_g1V cg⟩
/-! comparisons with names as they stand -/
theorem ie_cmp {op : CmpOp} {r : R2} {f : D → D → Option D} (ho : OpR X (compareOp op) r) (os : OpS X.K r f) (ha : IE X W a ma) (hb : IE X W b mb) (hm : behindInMarks op b = false := by first | exact nobehind _ (by decide) (by decide) | rfl) : IE X W (.Compare a [op] [b] pos) (eBin f ma mb) :=
  let ⟨_, h1, h2⟩ := ha; let ⟨_, h3, h4⟩ := hb; ⟨_, pe_cmpR ho h1 h3 hm, ev_bin os h2 h4⟩
theorem ib_cmp {op : CmpOp} {r : R2} {f : D → D → Option D} (ho : OpR X (compareOp op) r) (os : OpS X.K r f) (ha : IE X W a ma) (hb : IE X W b mb) (hm : behindInMarks op b = false := by first | exact nobehind _ (by decide) (by decide) | rfl) : IB X W (.Compare a [op] [b] pos) (bOf (eBin f ma mb)) :=
  let ⟨_, h1, h2⟩ := ha; let ⟨_, h3, h4⟩ := hb; ⟨_, pt_cmpR ho h1 h3 hm, eb_test (ev_bin os h2 h4)⟩
theorem ie_cmpV {op : CmpOp} {r : R2} {f : D → D → Option D} {py : Pos} (i : Nat) (ho : OpR X (compareOp op) r) (os : OpS X.K r f) (ha : IE X W a ma) (hm : behindInMarks op (.Name x py) = false := by first | exact nobehind _ (by decide) (by decide) | rfl)
    (hN : X.N[i]? = some x := by rfl) (hv : Vis X.env.scope x := by first | exact Or.inl rfl | exact Or.inr (Or.inl rfl) | exact Or.inr (Or.inr rfl)) (hd : (x == ("__debug__" : Str)) = false := by decide) (hcd : (x == ("__classdict__" : Str)) = false := by decide) :
    IE X W (.Compare a [op] [.Name x py] pos) (eBinV f ma i) := let ⟨_, h1, h2⟩ := ha; ⟨_, pe_cmpR ho h1 (pe_var hN hv hd hcd) hm, ev_binV os h2⟩
theorem ib_cmpV {op : CmpOp} {r : R2} {f : D → D → Option D} {py : Pos} (i : Nat) (ho : OpR X (compareOp op) r) (os : OpS X.K r f) (ha : IE X W a ma) (hm : behindInMarks op (.Name x py) = false := by first | exact nobehind _ (by decide) (by decide) | rfl)
    (hN : X.N[i]? = some x := by rfl) (hv : Vis X.env.scope x := by first | exact Or.inl rfl | exact Or.inr (Or.inl rfl) | exact Or.inr (Or.inr rfl)) (hd : (x == ("__debug__" : Str)) = false := by decide) (hcd : (x == ("__classdict__" : Str)) = false := by decide) :
    IB X W (.Compare a [op] [.Name x py] pos) (bOf (eBinV f ma i)) := let ⟨_, h1, h2⟩ := ha; ⟨_, pt_cmpR ho h1 (pe_var hN hv hd hcd) hm, eb_test (ev_binV os h2)⟩
theorem ie_cmpL {op : CmpOp} {r : R2} {f : D → D → Option D} {py : Pos} (i : Nat) (ho : OpR X (compareOp op) r) (os : OpS X.K r f) (hb : IE X W b mb) (hm : behindInMarks op b = false := by first | exact nobehind _ (by decide) (by decide) | rfl)
    (hN : X.N[i]? = some x := by rfl) (hv : Vis X.env.scope x := by first | exact Or.inl rfl | exact Or.inr (Or.inl rfl) | exact Or.inr (Or.inr rfl)) (hd : (x == ("__debug__" : Str)) = false := by decide) (hcd : (x == ("__classdict__" : Str)) = false := by decide) :
    IE X W (.Compare (.Name x py) [op] [b] pos) (eBinL f i mb) := let ⟨_, h1, h2⟩ := hb; ⟨_, pe_cmpR ho (pe_var hN hv hd hcd) h1 hm, ev_binL os h2⟩
theorem ib_cmpL {op : CmpOp} {r : R2} {f : D → D → Option D} {py : Pos} (i : Nat) (ho : OpR X (compareOp op) r) (os : OpS X.K r f) (hb : IE X W b mb) (hm : behindInMarks op b = false := by first | exact nobehind _ (by decide) (by decide) | rfl)
    (hN : X.N[i]? = some x := by rfl) (hv : Vis X.env.scope x := by first | exact Or.inl rfl | exact Or.inr (Or.inl rfl) | exact Or.inr (Or.inr rfl)) (hd : (x == ("__debug__" : Str)) = false := by decide) (hcd : (x == ("__classdict__" : Str)) = false := by decide) :
    IB X W (.Compare (.Name x py) [op] [b] pos) (bOf (eBinL f i mb)) := let ⟨_, h1, h2⟩ := hb; ⟨_, pt_cmpR ho (pe_var hN hv hd hcd) h1 hm, eb_test (ev_binL os h2)⟩
theorem ie_chain {op op' : CmpOp} {r r' : R2} {f g : D → D → Option D} (ho : OpR X (compareOp op) r) (ho' : OpR X (compareOp op') r') (os : OpS X.K r f) (os' : OpS X.K r' g) (ha : IE X W a ma) (hb : IE X W b mb) (hc : IE X W c mc) (hm : lastMarks [op, op'] [b, c] = false := by with_unfolding_all rfl) :
    IE X W (.Compare a [op, op'] [b, c] pos) (eChain f g ma mb mc) := let ⟨_, h1, h2⟩ := ha; let ⟨_, h3, h4⟩ := hb; let ⟨_, h5, h6⟩ := hc; ⟨_, pe_chain ho ho' h1 h3 h5 hm, ev_chain os os' h2 h4 h6⟩
theorem ib_chain {op op' : CmpOp} {r r' : R2} {f g : D → D → Option D} (ho : OpR X (compareOp op) r) (ho' : OpR X (compareOp op') r') (os : OpS X.K r f) (os' : OpS X.K r' g) (ha : IE X W a ma) (hb : IE X W b mb) (hc : IE X W c mc) (hm : lastMarks [op, op'] [b, c] = false := by with_unfolding_all rfl) :
    IB X W (.Compare a [op, op'] [b, c] pos) (bOf (eChain f g ma mb mc)) := let ⟨_, h1, h2⟩ := ha; let ⟨_, h3, h4⟩ := hb; let ⟨_, h5, h6⟩ := hc; ⟨_, pt_chain ho ho' h1 h3 h5 hm, eb_test (ev_chain os os' h2 h4 h6)⟩
/-! slices -/
theorem ie_sl {p2 : Pos} (ha : IE X W a m) (hl : IO X W lo ol) (hh : IO X W hi oh) : IE X W (.Subscript a (.Slice lo hi none p2) pos) (eSl m ol oh) := let ⟨_, h1, h2⟩ := ha; let ⟨_, h3, h4⟩ := hl; let ⟨_, h5, h6⟩ := hh; ⟨_, pe_slice sl_list h1 h3 h5, ev_sl h2 h4 h6⟩
theorem ie_slV {p2 py : Pos} (i : Nat) (hl : IO X W lo ol) (hh : IO X W hi oh) (hN : X.N[i]? = some x := by rfl) (hv : Vis X.env.scope x := by first | exact Or.inl rfl | exact Or.inr (Or.inl rfl) | exact Or.inr (Or.inr rfl)) (hd : (x == ("__debug__" : Str)) = false := by decide) (hcd : (x == ("__classdict__" : Str)) = false := by decide) :
    IE X W (.Subscript (.Name x py) (.Slice lo hi none p2) pos) (eSlV i ol oh) := let ⟨_, h3, h4⟩ := hl; let ⟨_, h5, h6⟩ := hh; ⟨_, pe_slice sl_list (pe_var hN hv hd hcd) h3 h5, ev_slV h4 h6⟩
theorem ie_rev {k : Nat} {p1 p2 p3 : Pos} (ha : IE X W a m) : IE X W (.Subscript a (.Slice none none (some (.UnaryOp .USub (.Constant (.int 1) k p1) p2)) p3) pos) (eG1 gRev m) := let ⟨_, h1, h2⟩ := ha; ⟨_, pe_revL h1, ev_g1 cg_rev h2⟩
theorem ie_revV {k : Nat} {p1 p2 p3 py : Pos} (i : Nat) (hN : X.N[i]? = some x := by rfl) (hv : Vis X.env.scope x := by first | exact Or.inl rfl | exact Or.inr (Or.inl rfl) | exact Or.inr (Or.inr rfl)) (hd : (x == ("__debug__" : Str)) = false := by decide) (hcd : (x == ("__classdict__" : Str)) = false := by decide) :
    IE X W (.Subscript (.Name x py) (.Slice none none (some (.UnaryOp .USub (.Constant (.int 1) k p1) p2)) p3) pos) (eG1V gRev i) := ⟨_, pe_revL (pe_var hN hv hd hcd), ev_g1V cg_rev⟩
/-! what is walked -/
theorem ii_Z {tpos : Pos} {elts : List Expr} {kk : Nat} (hm : X.mg "zip" = none) (ha : IA X W [a, b] ms) (hg : Gl X "zip" := by rfl) (hs : starEach [a, b] X.env = (false, eval a X.env) :: starEach [b] X.env := by rfl) (hpl : (backTo pos (starEach [b] X.env)).any (·.1) = false := by rfl) :
    II X W (.Tuple elts kk tpos) (.Call (.Name "zip" p) [a, b] [] pos) (iZ ms) := let ⟨_, h1, h2⟩ := ha; ⟨_, pi_zip hg hm h1 hs hpl, it_Z h2⟩
theorem ii_E {tpos : Pos} {elts : List Expr} {kk : Nat} (hm : X.mg "enumerate" = none) (ha : IA X W [a] ms) (hg : Gl X "enumerate" := by rfl) (hs : starEach [a] X.env = [(false, eval a X.env)] := by rfl) :
    II X W (.Tuple elts kk tpos) (.Call (.Name "enumerate" p) [a] [] pos) (iE ms) := let ⟨_, h1, h2⟩ := ha; ⟨_, pi_enum hg hm h1 hs, it_E h2⟩
theorem ii_Rv (hm : X.mg "reversed" = none) (ha : IA X W [a] ms) (hg : Gl X "reversed" := by rfl) (hs : starEach [a] X.env = [(false, eval a X.env)] := by rfl) :
    II X W tg (.Call (.Name "reversed" p) [a] [] pos) (iRv ms) := let ⟨_, h1, h2⟩ := ha; ⟨_, pi_reversed hg hm h1 hs, it_Rv h2⟩
/-! dicts -/
theorem ie_dict0 : IE X W (.Dict [] [] pos) eDict0 := ⟨_, pe_dnewK, ev_dict0⟩
theorem ie_dgetV {py : Pos} (i : Nat) (hu : X.A.units + 1 < cLine) (hb : IE X W b mb) (hs : NoSl b := by exact fun _ _ => rfl) (hN : X.N[i]? = some x := by rfl) (hv : Vis X.env.scope x := by first | exact Or.inl rfl | exact Or.inr (Or.inl rfl) | exact Or.inr (Or.inr rfl)) (hd : (x == ("__debug__" : Str)) = false := by decide) (hcd : (x == ("__classdict__" : Str)) = false := by decide) :
    IE X W (.Subscript (.Name x py) b pos) (eDGetV i mb) := let ⟨_, h1, h2⟩ := hb; ⟨_, pe_dget hu (pe_var hN hv hd hcd) h1 hs, ev_dgetV h2⟩
theorem ie_dinV {py : Pos} (i : Nat) (hu : X.A.units + 1 < cLine) (hb : IE X W b mb) (hN : X.N[i]? = some x := by rfl) (hv : Vis X.env.scope x := by first | exact Or.inl rfl | exact Or.inr (Or.inl rfl) | exact Or.inr (Or.inr rfl)) (hd : (x == ("__debug__" : Str)) = false := by decide) (hcd : (x == ("__classdict__" : Str)) = false := by decide) :
    IE X W (.Compare b [.In] [.Name x py] pos) (eDInV false mb i) := let ⟨_, h1, h2⟩ := hb; ⟨_, pe_cmp (pc_din hu h1 (pe_var hN hv hd hcd)) rfl, (ev_dinV h2).1⟩
theorem ib_dinV {py : Pos} (i : Nat) (hu : X.A.units + 1 < cLine) (hb : IE X W b mb) (hN : X.N[i]? = some x := by rfl) (hv : Vis X.env.scope x := by first | exact Or.inl rfl | exact Or.inr (Or.inl rfl) | exact Or.inr (Or.inr rfl)) (hd : (x == ("__debug__" : Str)) = false := by decide) (hcd : (x == ("__classdict__" : Str)) = false := by decide) :
    IB X W (.Compare b [.In] [.Name x py] pos) (bOf (eDInV false mb i)) := let ⟨_, h1, h2⟩ := hb; ⟨_, pt_cmp (pc_din hu h1 (pe_var hN hv hd hcd)) rfl, eb_B (ev_dinV h2).1⟩
theorem ie_dninV {py : Pos} (i : Nat) (hu : X.A.units + 1 < cLine) (hb : IE X W b mb) (hN : X.N[i]? = some x := by rfl) (hv : Vis X.env.scope x := by first | exact Or.inl rfl | exact Or.inr (Or.inl rfl) | exact Or.inr (Or.inr rfl)) (hd : (x == ("__debug__" : Str)) = false := by decide) (hcd : (x == ("__classdict__" : Str)) = false := by decide) :
    IE X W (.Compare b [.NotIn] [.Name x py] pos) (eDInV true mb i) := let ⟨_, h1, h2⟩ := hb; ⟨_, pe_cmp (pc_dnotin hu h1 (pe_var hN hv hd hcd)) rfl, (ev_dinV h2).2⟩
theorem ib_dninV {py : Pos} (i : Nat) (hu : X.A.units + 1 < cLine) (hb : IE X W b mb) (hN : X.N[i]? = some x := by rfl) (hv : Vis X.env.scope x := by first | exact Or.inl rfl | exact Or.inr (Or.inl rfl) | exact Or.inr (Or.inr rfl)) (hd : (x == ("__debug__" : Str)) = false := by decide) (hcd : (x == ("__classdict__" : Str)) = false := by decide) :
    IB X W (.Compare b [.NotIn] [.Name x py] pos) (bOf (eDInV true mb i)) := let ⟨_, h1, h2⟩ := hb; ⟨_, pt_cmp (pc_dnotin hu h1 (pe_var hN hv hd hcd)) rfl, eb_B (ev_dinV h2).2⟩
theorem is_dput {py pos' : Pos} (i : Nat) (hu : X.A.units + 1 < cLine) (ha : IE X W a m) (hb : IE X W b mb) (hN : X.N[i]? = some x := by rfl) (hv : Vis X.env.scope x := by first | exact Or.inl rfl | exact Or.inr (Or.inl rfl) | exact Or.inr (Or.inr rfl)) (hd : (x == ("__debug__" : Str)) = false := by decide) (hcd : (x == ("__classdict__" : Str)) = false := by decide)
    (hs : swapsWith a (some (.Subscript (.Name x py) b pos')) pos.line X.env = pure false := by rfl) : IS X W P (.Assign [.Subscript (.Name x py) b pos'] a pos) (sDPutV i m mb) := let ⟨_, h1, h2⟩ := ha; let ⟨_, h3, h4⟩ := hb; ⟨_, ps_dput hu (pe_var hN hv hd hcd) h3 h1 hs, st_dputV h2 h4⟩
end
section
variable {env : Env} {d : D} {i : Nat} {m ma mb mc : Exp} {f g : D → D → Option D} {h : D → Option D} {lo hi : Opt} {ms : Arg} {ds : List D}
@[simp] theorem eG1_app : eG1 h m env = (m env).bind fun p => match h (shI p.1) with | some d => .ok (d, p.2) | none => .no := rfl
@[simp] theorem eG1V_app : eG1V h i env = (match env[i]? with | some c => if isDead c then .no else (match h (shI c) with | some d => .ok (d, env.set i (shI c)) | none => .no) | none => .no) := rfl
@[simp] theorem eBinV_app : eBinV f ma i env = (ma env).bind fun p => match p.2[i]? with | some c => if isDead c then .no else (match f p.1 c with | some d => .ok (d, p.2) | none => .no) | none => .no := rfl
@[simp] theorem eBinL_app : eBinL f i mb env = if live env i then (mb env).bind fun q => (match q.2[i]? with | some c => if isDead c then .no else (match f c q.1 with | some d => .ok (d, q.2) | none => .no) | none => .no) else .no := rfl
@[simp] theorem eChain_app : eChain f g ma mb mc env = (ma env).bind fun p => (mb p.2).bind fun q => match f p.1 q.1 with
  | some (.bl k) => if k then (if own q.1 then .no else (mc q.2).bind fun r => match g q.1 r.1 with
    | some d => .ok (d, r.2)
    | none => .no) else .ok (.bl false, q.2)
  | _ => .no := rfl
@[simp] theorem oN_app : oN env = .ok (none, env) := rfl
@[simp] theorem oS_app : oS m env = (m env).bind fun p => match p.1 with | .int i => .ok (some i, p.2) | _ => .no := rfl
@[simp] theorem eSl_app : eSl m lo hi env = (m env).bind fun p => (lo p.2).bind fun q => (hi q.2).bind fun w => match lsD (sh p.1) with | some ds => .ok (.lst true (cutD ds q.1 w.1), w.2) | none => .no := rfl
@[simp] theorem eSlV_app : eSlV i lo hi env = if live env i then (lo env).bind fun q => (hi q.2).bind fun w => (match w.2[i]? with
  | some c => (match lsD (shI c) with | some ds => .ok (.lst true (cutD ds q.1 w.1), w.2.set i (shI c)) | none => .no)
  | none => .no) else .no := rfl
@[simp] theorem iZ_app : iZ ms env = (ms env).bind fun p => match p.1 with | [c1, c2] => (match lsD (sh c1), lsD (sh c2) with | some xs, some ys => .ok (zipD xs ys, p.2) | _, _ => .no) | _ => .no := rfl
@[simp] theorem iE_app : iE ms env = (ms env).bind fun p => match p.1 with | [c1] => (match lsD (sh c1) with | some xs => .ok (enumD xs, p.2) | _ => .no) | _ => .no := rfl
@[simp] theorem iRv_app : iRv ms env = (ms env).bind fun p => match p.1 with | [c1] => (match lsD (sh c1) with | some xs => .ok (xs.reverse, p.2) | _ => .no) | _ => .no := rfl
@[simp] theorem eDict0_app : eDict0 env = .ok (.dct true [] [], env) := rfl
@[simp] theorem eDGetV_app : eDGetV i mb env = if live env i then (mb env).bind fun q => (match q.2[i]?, keyOf q.1 with
  | some (.dct _ ks ds), some k => (match valK ks ds k with | some d => if own d then .no else .ok (d, q.2) | none => .no)
  | _, _ => .no) else .no := rfl
@[simp] theorem eDInV_app {neg : Bool} : eDInV neg mb i env = (mb env).bind fun q => match q.2[i]?, keyOf q.1 with
  | some (.dct _ ks _), some k => .ok (.bl (if neg then !decide (k ∈ ks) else decide (k ∈ ks)), q.2)
  | _, _ => .no := rfl
@[simp] theorem sDPutV_app {ma mb : Exp} : sDPutV i ma mb env = (match ma env with
  | .no => .no
  | .ex x e => .ex x e
  | .ok p => if live p.2 i then (match mb p.2 with
    | .no => .no
    | .ex x e => .ex x e
    | .ok q => match keyOf q.1, q.2[i]? with
      | some k, some (.dct true ks ds) => if ks.length < 100000 then .nx (q.2.set i (.dct true (putD ks ds k (sh p.1)).1 (putD ks ds k (sh p.1)).2)) else .no
      | _, _ => .no) else .no) := rfl
@[simp] theorem shI_lst {o : Bool} : shI (.lst o ds) = .lst o (shL ds) := rfl
@[simp] theorem shI_tup : shI (.tup ds) = .tup (shL ds) := rfl
@[simp] theorem shI_frz : shI (.frz ds) = .frz (shL ds) := rfl
@[simp] theorem shI_dct {o : Bool} {ks : List L2.Key} : shI (.dct o ks ds) = .dct o ks (shL ds) := rfl
@[simp] theorem shI_int {a : Int} : shI (.int a) = .int a := rfl
@[simp] theorem shI_bl {a : Bool} : shI (.bl a) = .bl a := rfl
@[simp] theorem shI_non : shI .non = .non := rfl
@[simp] theorem shI_str {a : Str} : shI (.str a) = .str a := rfl
@[simp] theorem lsD_lst {o : Bool} : lsD (.lst o ds) = some ds := rfl
@[simp] theorem lsD_frz : lsD (.frz ds) = some ds := rfl
@[simp] theorem itD_lst {o : Bool} : itD (.lst o ds) = some ds := rfl
@[simp] theorem itD_frz : itD (.frz ds) = some ds := rfl
@[simp] theorem itD_tup : itD (.tup ds) = some ds := rfl
@[simp] theorem gList_lst {o : Bool} : gList (.lst o ds) = some (.lst true ds) := rfl
@[simp] theorem gList_tup : gList (.tup ds) = some (.lst true ds) := rfl
@[simp] theorem gTuple_lst {o : Bool} : gTuple (.lst o ds) = some (.tup ds) := rfl
@[simp] theorem gTuple_tup : gTuple (.tup ds) = some (.tup ds) := rfl
@[simp] theorem gRev_lst {o : Bool} : gRev (.lst o ds) = some (.lst true ds.reverse) := rfl
@[simp] theorem gKeys_dct {o : Bool} {ks : List L2.Key} : gKeys (.dct o ks ds) = some (.lst true (ks.map keyD)) := rfl
@[simp] theorem fIs_bl {a b : Bool} : fIs (.bl a) (.bl b) = some (.bl (a == b)) := rfl
@[simp] theorem fIsN_bl {a b : Bool} : fIsN (.bl a) (.bl b) = some (.bl (!(a == b))) := rfl
@[simp] theorem keyOf_int {a : Int} : keyOf (.int a) = some (.inl a) := rfl
@[simp] theorem keyOf_str {a : Str} : keyOf (.str a) = some (.inr a) := rfl
theorem toInts_map (ns : List Int) : toInts (ns.map .int) = some ns := by
  induction ns with
  | nil => rfl
  | cons a l ih => simp [toInts, ih]
theorem toBls_map (ns : List Bool) : toBls (ns.map .bl) = some ns := by
  induction ns with
  | nil => rfl
  | cons a l ih => simp [toBls, ih]
theorem valsD_ints (ns : List Int) : valsD (ns.map .int) = some (ns.map .int) := by
  induction ns with
  | nil => rfl
  | cons a l ih => simp [valsD, valD, ih]
theorem inV_ints (a : Int) (ns : List Int) : L2.inV (.int a) (ns.map .int) = decide (a ∈ ns) := by
  induction ns with
  | nil => simp [L2.inV]
  | cons b l ih =>
    unfold L2.inV at ih ⊢
    rw [List.map_cons, List.any_cons, ih]
    simp only [L2.eqV, List.mem_cons, Bool.decide_or]
    congr 1
    rw [Bool.beq_eq_decide_eq]
    simp [eq_comm]
theorem fIn_ints {o : Bool} (a : Int) (ns : List Int) : fIn (.int a) (.lst o (ns.map .int)) = some (.bl (decide (a ∈ ns))) := by
  simp [fIn, fInG, valD, valsD_ints, inV_ints]
theorem fNotIn_ints {o : Bool} (a : Int) (ns : List Int) : fNotIn (.int a) (.lst o (ns.map .int)) = some (.bl (!decide (a ∈ ns))) := by
  simp [fNotIn, fInG, valD, valsD_ints, inV_ints]
end
end Fl
namespace Fl
open PySem PySem.Spec PyProof.Rows L2
/-! ### calls that leave defaults out -/
section
variable {K : PySem.W.Frag} {W : Wh} {σ : L2.St} {env env' : Env} {F A A' B C : List Addr} {Hs H Hs' H' : Hp}
def eCallD (m : Fn) (dds : List D) (ms : Arg) : Exp := fun env => (ms env).bind fun p => match m (p.1 ++ dds) with
  | .ok q => .ok (q.1, p.2)
  | _ => .no
theorem ev_callD {n : Nat} {f : Fn} {E : XK} {ta : TA} {ms : Arg} {dvs : List V} {dds : List D} (hn : ∀ ds q, f ds = .ok q → ds.length = n) (hd : ∀ Hs H, RL K Hs H dvs dds []) (e : EvA K W ta ms) : EvI K W (tCall (spI K n f) dvs E ta) (eCallD f dds ms) := by
  intro σ env F Hs H A r o
  unfold eCallD
  cases h1 : ms env with
  | no => trivial
  | ex x e' => exact fun k Q => e.ex r o h1 k _
  | ok p =>
    obtain ⟨ds, env1⟩ := p
    simp only [Res.bind_ok]
    cases h2 : f (ds ++ dds) with
    | no => trivial
    | ex x e' => trivial
    | ok q =>
      obtain ⟨d, d0⟩ := q
      intro Q k
      refine e.ok r o h1 fun vs Hs1 H1 B1 A1 rs r1 o1 g1 => ?_
      have rs2 : RL K Hs1 H1 (vs ++ dvs) (ds ++ dds) B1 := by simpa using rs.app (hd Hs1 H1)
      refine ⟨by rw [rs2.length]; exact hn _ _ h2, ds ++ dds, Hs1, F ++ A1, B1, (d, d0), rs2, o1.less fun a => by simp only [List.count_append]; omega, h2, fun v Hs2 H2 B2 C2 rv r0 o2 g2 => ?_⟩
      refine k v Hs2 H2 B2 A1 rv (r1.mono g2.hs fun a w c h => g2.keep a w h ?_) (o2.less fun a => by simp only [List.count_append]; omega) ?_
      · have := o1.nd a; simp only [List.count_append] at this; omega
      · refine g1.trans ?_
        have g3 := g2.frame (F := A1)
        exact (g3.more fun a c => by simp only [List.count_append] at c ⊢; omega).less fun a c => by simp only [List.count_append] at c ⊢; omega
end
/-- a def of the text, its last parameters' defaults dds left out -/
structure HasD (P : Program) (w : World) (K : PySem.W.Frag) (mg : Str → Option Value) (base : Heap) (k : Nat) (x : Str) (n : Nat) (m : Fn) (dds : List D) : Prop where
  len : ∀ ds q, m ds = .ok q → ds.length = n
  ex : ∃ f fd ps us vs, FnOk P w K mg base CX0 k f fd ps (spI K n m) ∧ mg x = some (.ref f) ∧ PySem.W.keepIn K (.ref f) = true ∧ Binds K fd ps us ∧ Vals vs us ∧ ∀ Hs H, RL K Hs H vs dds []
section
variable {X : Cx} {W : Wh} {e : Expr} {es : List Expr} {ms : Arg} {pos p : Pos} {x : Str}
theorem ie_callD {k n : Nat} {f : Fn} {dds : List D} (h : HasD X.prog X.w X.K X.mg X.base k x n f dds) (hr : Room k X.A) (ha : IA X W (e :: es) ms) (hg : Gl X x := by rfl) (hdb : (x == ("__debug__" : Str)) = false := by decide)
    (he : starEach (e :: es) X.env = (false, eval e X.env) :: starEach es X.env := by rfl) (hpl : (backTo pos (starEach es X.env)).any (·.1) = false := by rfl) : IE X W (.Call (.Name x p) (e :: es) [] pos) (eCallD f dds ms) := by
  obtain ⟨_, h1, h2⟩ := ha
  obtain ⟨g, fd, ps, us, vs, G, hm, hk, hb, hv, hR⟩ := h.ex
  exact ⟨_, pe_call G hr hg hm hk hb hv pass0 h1 hdb he hpl, ev_callD h.len hR h2⟩
end
theorem hasD_of {Pg : Program} {w : World} {K : PySem.W.Frag} {mg : Str → Option Value} {base : Heap} {x qual : Str} {params : Arguments} {body : List Stmt} {scope : Scope} {f : Addr} {fd : FuncData} {ps : List Str} {dvs : List V} {dds : List D} {k n nw : Nat} {m : Fn} (j : Nat) (F : FunD K x qual params body scope dvs [] f fd) (hl : ∀ ds q, m ds = .ok q → ds.length = n) (h : FnOk Pg w K mg base CX0 k f fd ps (spI K n m)) (hm : mg x = some (.ref f)) (hd : dvs ≠ []) (hn : nw + (dvs.length - j) = ps.length)
    (R : ∀ Hs H, RL K Hs H (dvs.drop j) dds [])
    (b : ∀ (T : Addr) (kV doc pm : Value) (an : Option Addr) (cdv ct : Value) (us its : List Value), us.length = nw → its.length = dvs.length →
      ∃ k, bindArgs (PySem.W.fnOf x qual params body scope (.ref T) kV doc pm an cdv ct) ⟨us, []⟩ = seqItems? (.ref T) >>= k ∧ k (some its.toArray) = pure (ps.zip (us ++ its.drop j))) : HasD Pg w K mg base k x n m dds := by
  obtain ⟨us, h1, h2⟩ := F.binds1 (ps := ps) nw j hd hn b
  exact ⟨hl, f, fd, ps, us, _, h, hm, F.kp, h2, h1, R⟩
@[simp] theorem eCallD_app {m : Fn} {dds : List D} {ms : Arg} {env : Env} : eCallD m dds ms env = (ms env).bind fun p => match m (p.1 ++ dds) with | .ok q => .ok (q.1, p.2) | _ => .no := rfl
end Fl

/-! Fl: calls whose arguments are lent: where what is told knows nothing of them they are unshared behind it. -/
namespace Fl
open PySem PySem.Spec PyProof.Rows L2
section
variable {K : PySem.W.Frag} {W : Wh} {σ : L2.St} {env env' : Env} {F A A' B C : List Addr} {Hs H Hs' H' : Hp} {t ta tb : TE} {m ma mb : Exp} {c d d1 d2 : D} {v : V} {vs : List V} {ds : List D}
mutual
def clean : D → Bool
  | .non => true
  | .bl _ => true
  | .int _ => true
  | .str _ => true
  | .tup ds => cleanL ds
  | .lst o ds => o && cleanL ds
  | .dct o _ ds => o && cleanL ds
  | _ => false
def cleanL : List D → Bool
  | [] => true
  | d :: ds => clean d && cleanL ds
end
/-- what is owned are lists and dicts -/
def LD (H : Hp) (a : Addr) : Prop := (∃ xs, H a = some (.lst xs)) ∨ ∃ kvs, H a = some (.dK kvs)
theorem RL.ld (r : RL K Hs H vs ds A) : ∀ a, 0 < A.count a → LD H a := by
  induction r with
  | nil => intro a c; simp at c
  | sc _ _ ih => exact ih
  | @tup b xs es A vs ds B _ _ _ i1 i2 =>
    intro a c
    rw [List.count_append] at c
    by_cases q : 0 < A.count a
    · exact i1 a q
    · exact i2 a (by omega)
  | frz _ _ _ _ i2 => exact i2
  | lstS _ _ _ _ i2 => exact i2
  | dctS _ _ _ _ _ i2 => exact i2
  | @lstO b xs es A vs ds B h _ _ i1 i2 =>
    intro a c
    rw [List.count_cons, List.count_append] at c
    by_cases e : b = a
    · subst e; exact .inl ⟨_, h⟩
    · have : (b == a) = false := by simpa using e
      rw [this] at c
      by_cases q : 0 < A.count a
      · exact i1 a q
      · exact i2 a (by simp at c; omega)
  | @dct b kvs ks es A vs ds B h hk _ _ i1 i2 =>
    intro a c
    rw [List.count_cons, List.count_append] at c
    by_cases e : b = a
    · subst e; exact .inr ⟨_, h⟩
    · have : (b == a) = false := by simpa using e
      rw [this] at c
      by_cases q : 0 < A.count a
      · exact i1 a q
      · exact i2 a (by simp at c; omega)
  | dead _ ih => exact ih
theorem ER.ld (r : ER K Hs H σ env A) : ∀ a, 0 < A.count a → LD H a := by
  induction r with
  | nil => intro a c; simp at c
  | dead _ ih => exact ih
  | @cons v d B σ env A q r ih =>
    intro a c
    rw [List.count_append] at c
    by_cases h : 0 < B.count a
    · exact q.ld a h
    · exact ih a (by omega)
theorem RL.unshare (r : RL K Hs H vs ds A) : cleanL ds = true → (∀ a xs, Rd Hs a (.tup xs) → Hs' a = Hs a) → RL K Hs' H vs ds A := by
  induction r with
  | nil => intro _ _; exact .nil
  | @sc v d vs ds B h _ ih =>
    intro e k
    simp only [cleanL, Bool.and_eq_true] at e
    exact .sc h (ih e.2 k)
  | tup h _ _ i1 i2 =>
    intro e k
    simp only [cleanL, clean, Bool.and_eq_true] at e
    refine .tup ?_ (i1 e.1 k) (i2 e.2 k)
    rcases h with h | h
    · left
      have := k _ _ h
      rcases h with h | ⟨o, h⟩
      · exact .inl (this.trans h)
      · exact .inr ⟨o, this.trans h⟩
    · exact .inr h
  | frz _ _ _ _ _ => intro e; simp [cleanL, clean] at e
  | lstS _ _ _ _ _ => intro e; simp [cleanL, clean] at e
  | dctS _ _ _ _ _ _ => intro e; simp [cleanL, clean] at e
  | lstO h _ _ i1 i2 =>
    intro e k
    simp only [cleanL, clean, Bool.true_and, Bool.and_eq_true] at e
    exact .lstO h (i1 e.1 k) (i2 e.2 k)
  | dct h hk _ _ i1 i2 =>
    intro e k
    simp only [cleanL, clean, Bool.true_and, Bool.and_eq_true] at e
    exact .dct h hk (i1 e.1 k) (i2 e.2 k)
  | dead _ _ => intro e; simp [cleanL, clean] at e

/-! ### arguments, names among them lent -/
inductive BA where
  | v (i : Nat)
  | e (m : Exp)
abbrev BP := List (Sum D Nat)
def argB : List BA → Env → Option (BP × Env)
  | [], env => some ([], env)
  | .v i :: bs, env => if live env i then (match argB bs env with
    | some p => some (.inr i :: p.1, p.2)
    | none => none) else none
  | .e m :: bs, env => match m env with
    | .ok p => (match argB bs p.2 with
      | some q => some (.inl p.1 :: q.1, q.2)
      | none => none)
    | _ => none
def fillB (env : Env) : BP → Option (List D)
  | [] => some []
  | .inl d :: ps => (match fillB env ps with
    | some ds => some (d :: ds)
    | none => none)
  | .inr i :: ps => (match env[i]?, fillB env ps with
    | some c, some ds => if isDead c then none else some (sh c :: ds)
    | _, _ => none)
inductive AB (K : PySem.W.Frag) (σ : L2.St) (Hs H : Hp) : List V → BP → List Addr → Prop
  | nil : AB K σ Hs H [] [] []
  | d {v d vs ps B C} : RL K Hs H [v] [d] B → AB K σ Hs H vs ps C → AB K σ Hs H (v :: vs) (.inl d :: ps) (B ++ C)
  | v {v i vs ps C} : σ[i]? = some (some v) → AB K σ Hs H vs ps C → AB K σ Hs H (v :: vs) (.inr i :: ps) C
theorem AB.mono {ps : BP} (r : AB K σ Hs H vs ps A) (e : ∀ a o, Hs a = some o → Hs' a = some o) (k : ∀ a o, 0 < A.count a → H a = some o → H' a = some o) : AB K σ Hs' H' vs ps A := by
  induction r with
  | nil => exact .nil
  | d h _ ih => exact .d (h.mono e fun a o c => k a o (by rw [List.count_append]; omega)) (ih fun a o c => k a o (by rw [List.count_append]; omega))
  | v h _ ih => exact .v h (ih k)
theorem AB.length {ps : BP} (r : AB K σ Hs H vs ps A) : vs.length = ps.length := by
  induction r <;> simp_all
theorem fill_len {env : Env} : ∀ {ps : BP} {ds : List D}, fillB env ps = some ds → ds.length = ps.length
  | [], ds, h => by cases h; rfl
  | .inl d :: ps, ds, h => by
    unfold fillB at h
    split at h
    · rename_i q; cases h; simp [fill_len q]
    · cases h
  | .inr i :: ps, ds, h => by
    unfold fillB at h
    split at h
    · rename_i q
      split at h
      · cases h
      · cases h; simp [fill_len q]
    · cases h
/-- all that the slots own is lent -/
theorem AB.fill {A1 : List Addr} (r1 : ER K Hs H σ env A1) (o : Ok Hs H (A1 ++ C)) : ∀ {ps : BP} {vs : List V} {ds : List D} {B : List Addr}, AB K σ Hs H vs ps B → fillB env ps = some ds → RL K (pool Hs H A1) H vs ds B
  | [], vs, ds, B, r, h => by cases r; cases h; exact .nil
  | .inl d0 :: ps, vs, ds, B, r, h => by
    cases r with
    | d rv rr =>
      unfold fillB at h
      split at h
      · rename_i q
        cases h
        exact (rv.mono (pool_ext o) fun a u _ h => h).cons (AB.fill r1 o rr q)
      · cases h
  | .inr i :: ps, vs, ds, B, r, h => by
    cases r with
    | v hv rr =>
      unfold fillB at h
      split at h
      · rename_i c es hc q
        split at h
        · cases h
        · rename_i hd
          cases h
          obtain ⟨w, B1, A2, e1, e2, e3, e4⟩ := r1.at hc (by intro e; subst e; exact hd rfl)
          rw [hv] at e1; cases e1
          have s1 := e2.share (Hs' := pool Hs H A1) (pool_ext o) fun a c => pool_in (by have := e4 a; omega)
          simpa using RL.cons s1 (AB.fill r1 o rr q)
      · cases h
def EvAB (K : PySem.W.Frag) (t : TA) (bs : List BA) : Prop := ∀ σ env F Hs H A ps env', ER K Hs H σ env A → Ok Hs H (F ++ A) → argB bs env = some (ps, env') → ∀ Q : List V → Hp → Prop,
  (∀ vs Hs' H' B A', AB K σ Hs' H' vs ps B → ER K Hs' H' σ env' A' → Ok Hs' H' (B ++ (F ++ A')) → Go Hs H A Hs' H' (B ++ A') → Q vs H') → t σ H Q
theorem eab_nil : EvAB K tNil [] := by
  intro σ env F Hs H A ps env' r o h Q k
  cases h
  exact k [] Hs H [] A .nil r (by simpa using o) (by simpa using Go.refl)
theorem eab_v {i : Nat} {tr : TA} {bs : List BA} (e : EvAB K tr bs) : EvAB K (tCons (tVar i) tr) (.v i :: bs) := by
  intro σ env F Hs H A ps env' r o h Q k
  unfold argB at h
  split at h
  · rename_i hl
    split at h
    · rename_i p q
      cases h
      obtain ⟨v, hv⟩ := live_at r hl
      refine ⟨v, hv, ?_⟩
      exact e σ env F Hs H A p.1 p.2 r o q _ fun vs Hs1 H1 B1 A1 ra r1 o1 g1 => k (v :: vs) Hs1 H1 B1 A1 (.v hv ra) r1 o1 g1
    · cases h
  · cases h
theorem eab_e {W : Wh} {tr : TA} {bs : List BA} (em : EvI K W t m) (e : EvAB K tr bs) : EvAB K (tCons t tr) (.e m :: bs) := by
  intro σ env F Hs H A ps env' r o h Q k
  unfold argB at h
  split at h
  · rename_i p h1
    split at h
    · rename_i q h2
      cases h
      refine em.ok r o h1 fun v Hs1 H1 B1 A1 rv r1 o1 g1 => ?_
      refine e σ p.2 (B1 ++ F) Hs1 H1 A1 q.1 q.2 r1 (o1.less fun a => by simp only [List.count_append]; omega) h2 _ fun vs Hs2 H2 B2 A2 ra r2 o2 g2 => ?_
      have rv2 : RL K Hs2 H2 [v] [p.1] B1 := rv.go g2 fun a c => by have := o1.nd a; simp only [List.count_append] at this; omega
      refine k (v :: vs) Hs2 H2 (B1 ++ B2) A2 (.d rv2 ra) r2 (o2.less fun a => by simp only [List.count_append]; omega) ?_
      exact (g1.trans (g2.frame (F := B1))).less fun a c => by simp only [List.count_append] at *; omega
    · cases h
  · cases h
/-- f(..): the names among the arguments lent where what is told is clean; else they are shared -/
def eCallB (f : Fn) (bs : List BA) (ms : Arg) : Exp := fun env => match argB bs env with
  | some p => (match fillB p.2 p.1 with
    | some ds => (match f ds with
      | .ok q => if clean q.1 then .ok (q.1, p.2) else eCall f ms env
      | _ => eCall f ms env)
    | none => eCall f ms env)
  | none => eCall f ms env
theorem ev_callB {n : Nat} {f : Fn} {E : XK} {ta : TA} {ms : Arg} {bs : List BA} (hn : ∀ ds q, f ds = .ok q → ds.length = n) (e : EvA K W ta ms) (eb : EvAB K ta bs) : EvI K W (tCall (spI K n f) [] E ta) (eCallB f bs ms) := by
  intro σ env F Hs H A r o
  have plain := ev_call (E := E) hn e σ env F Hs H A r o
  unfold eCallB
  split
  · rename_i p h1
    split
    · rename_i ds h2
      split
      · rename_i q h3
        refine iteP (fun hc => ?_) fun _ => plain
        obtain ⟨d, d0⟩ := q
        intro Q k
        refine eb σ env F Hs H A p.1 p.2 r o h1 _ fun vs Hs1 H1 B1 A1 ra r1 o1 g1 => ?_
        rw [List.append_nil]
        have oA : Ok Hs1 H1 (A1 ++ (B1 ++ F)) := o1.less fun a => by simp only [List.count_append]; omega
        have rs := AB.fill r1 oA ra h2
        refine ⟨by rw [rs.length]; exact hn _ _ h3, ds, pool Hs1 H1 A1, F, B1, (d, d0), rs, oA.pool.less fun a => by simp only [List.count_append]; omega, h3, fun v Hs2 H2 B2 C2 rv r0 o2 g2 => ?_⟩
        have kept : ∀ a u, 0 < A1.count a → H1 a = some u → Hs2 a = some u := fun a u c h => g2.hs a u (by rw [pool_in c]; exact h)
        have ext : ∀ a u, Hs1 a = some u → (if 0 < A1.count a then none else Hs2 a) = some u := fun a u h => by
          have c : ¬ 0 < A1.count a := fun c => by rw [oA.off a (by simp only [List.count_append]; omega)] at h; cases h
          rw [if_neg c]
          exact g2.hs a u (pool_ext oA a u h)
        have dis : ∀ a, 0 < B2.count a → A1.count a = 0 := fun a c => by
          rcases g2.own a (by rw [List.count_append]; omega) with q | q
          · have := o1.nd a; simp only [List.count_append] at this; omega
          · by_cases z : 0 < A1.count a
            · exact absurd q (o1.has a (by simp only [List.count_append]; omega))
            · omega
        have rv' : RL K (fun a => if 0 < A1.count a then none else Hs2 a) H2 [v] [d] B2 := rv.unshare (by simpa [cleanL] using hc) fun a xs h => by
          by_cases c : 0 < A1.count a
          · rcases r1.ld a c with ⟨ys, z⟩ | ⟨ys, z⟩
            all_goals
              have w := kept a _ c z
              rcases h with h | ⟨ob, h⟩ <;> (rw [w] at h; cases h)
          · rw [if_neg c]
        refine k v _ H2 B2 A1 rv' (r1.mono ext fun a u c h => o2.sub a u (kept a u c h)) ⟨fun a u h => ?_, fun a => ?_, fun a c => ?_, fun a c => ?_⟩ (g1.trans ⟨ext, fun a u h c => ?_, fun a u h n => ?_, fun a c => ?_⟩)
        · by_cases c : 0 < A1.count a
          · rw [if_pos c] at h; cases h
          · rw [if_neg c] at h; exact o2.sub a u h
        · have h1 := o2.nd a
          have h2 := o1.nd a
          have h3 := dis a
          simp only [List.count_append] at *
          by_cases z : 0 < B2.count a
          · have := h3 z; omega
          · omega
        · by_cases z : 0 < A1.count a
          · rw [if_pos z]
          · rw [if_neg z]
            exact o2.off a (by simp only [List.count_append] at *; omega)
        · by_cases z : 0 < A1.count a
          · rcases none_or (H := H1) a with q | ⟨u, q⟩
            · exact absurd q (o1.has a (by simp only [List.count_append]; omega))
            · rw [o2.sub a u (kept a u z q)]; simp
          · exact o2.has a (by simp only [List.count_append] at *; omega)
        · exact g2.keep a u h (by simp only [List.count_append] at c; omega)
        · by_cases c : 0 < A1.count a
          · rw [if_pos c] at h; cases h
          · rw [if_neg c] at h
            rcases g2.back a u h (by rw [pool_out (by omega)]; exact n) with q | q
            · exact .inl (by simp only [List.count_append]; omega)
            · exact .inr q
        · simp only [List.count_append] at c ⊢
          by_cases z : 0 < A1.count a
          · exact .inl (by omega)
          · rcases g2.own a (by simp only [List.count_append]; omega) with q | q
            · exact .inl (by omega)
            · exact .inr q
      · exact plain
    · exact plain
  · exact plain
end
/-- the same arguments, read both ways -/
def IAB (X : Cx) (W : Wh) (es : List Expr) (ms : Arg) (bs : List BA) : Prop := ∃ t, PA X es t ∧ EvA X.K W t ms ∧ EvAB X.K t bs
section
variable {X : Cx} {W : Wh} {e : Expr} {es : List Expr} {m : Exp} {ms : Arg} {bs : List BA} {pos p : Pos} {x : Str}
theorem iab_nil : IAB X W [] aN [] := ⟨_, pa_nil, ea_nil, eab_nil⟩
theorem iab_v {py : Pos} (i : Nat) (hs : IAB X W es ms bs) (hN : X.N[i]? = some x := by rfl) (hv : Vis X.env.scope x := by first | exact Or.inl rfl | exact Or.inr (Or.inl rfl) | exact Or.inr (Or.inr rfl)) (hd : (x == ("__debug__" : Str)) = false := by decide) (hcd : (x == ("__classdict__" : Str)) = false := by decide)
    (h : starEach (.Name x py :: es) X.env = (false, eval (.Name x py) X.env) :: starEach es X.env := by rfl) : IAB X W (.Name x py :: es) (aC (eV i) ms) (.v i :: bs) := let ⟨_, h3, h4, h5⟩ := hs; ⟨_, pa_cons (pe_var hN hv hd hcd) h3 h, ea_cons ev_v h4, eab_v h5⟩
theorem iab_e (he : IE X W e m) (hs : IAB X W es ms bs) (h : starEach (e :: es) X.env = (false, eval e X.env) :: starEach es X.env := by rfl) : IAB X W (e :: es) (aC m ms) (.e m :: bs) := let ⟨_, h1, h2⟩ := he; let ⟨_, h3, h4, h5⟩ := hs; ⟨_, pa_cons h1 h3 h, ea_cons h2 h4, eab_e h2 h5⟩
theorem ie_callB {k n : Nat} {f : Fn} (h : Has X.prog X.w X.K X.mg X.base k x n f) (hr : Room k X.A) (ha : IAB X W (e :: es) ms bs) (hg : Gl X x := by rfl) (hdb : (x == ("__debug__" : Str)) = false := by decide)
    (he : starEach (e :: es) X.env = (false, eval e X.env) :: starEach es X.env := by rfl) (hpl : (backTo pos (starEach es X.env)).any (·.1) = false := by rfl) : IE X W (.Call (.Name x p) (e :: es) [] pos) (eCallB f bs ms) := by
  obtain ⟨_, h1, h2, h3⟩ := ha
  obtain ⟨g, fd, ps, G, hm, hk, hb⟩ := h.ex
  exact ⟨_, pe_call G hr hg hm hk hb .nil pass0 h1 hdb he hpl, ev_callB h.len h2 h3⟩
end
section
variable {env : Env} {d : D} {i : Nat} {m : Exp} {ms : Arg} {f : Fn} {bs : List BA} {ps : BP} {ds : List D}
@[simp] theorem eCallB_app : eCallB f bs ms env = (match argB bs env with
  | some p => (match fillB p.2 p.1 with
    | some ds => (match f ds with
      | .ok q => if clean q.1 then .ok (q.1, p.2) else eCall f ms env
      | _ => eCall f ms env)
    | none => eCall f ms env)
  | none => eCall f ms env) := rfl
@[simp] theorem argB_nil : argB [] env = some ([], env) := rfl
@[simp] theorem argB_v : argB (.v i :: bs) env = if live env i then (match argB bs env with | some p => some (.inr i :: p.1, p.2) | none => none) else none := rfl
@[simp] theorem argB_e : argB (.e m :: bs) env = (match m env with | .ok p => (match argB bs p.2 with | some q => some (.inl p.1 :: q.1, q.2) | none => none) | _ => none) := rfl
@[simp] theorem fillB_nil : fillB env [] = some [] := rfl
@[simp] theorem fillB_l : fillB env (.inl d :: ps) = (match fillB env ps with | some ds => some (d :: ds) | none => none) := rfl
@[simp] theorem fillB_r : fillB env (.inr i :: ps) = (match env[i]?, fillB env ps with | some c, some ds => if isDead c then none else some (sh c :: ds) | _, _ => none) := rfl
@[simp] theorem clean_int {a : Int} : clean (.int a) = true := rfl
@[simp] theorem clean_bl {a : Bool} : clean (.bl a) = true := rfl
@[simp] theorem clean_non : clean .non = true := rfl
@[simp] theorem clean_str {a : Str} : clean (.str a) = true := rfl
@[simp] theorem clean_tup : clean (.tup ds) = cleanL ds := rfl
@[simp] theorem clean_lst {o : Bool} : clean (.lst o ds) = (o && cleanL ds) := rfl
@[simp] theorem clean_dct {o : Bool} {ks : List Key} : clean (.dct o ks ds) = (o && cleanL ds) := rfl
@[simp] theorem clean_frz : clean (.frz ds) = false := rfl
@[simp] theorem clean_exo {c : Str} : clean (.exo c ds) = false := rfl
@[simp] theorem clean_dead : clean .dead = false := rfl
@[simp] theorem cleanL_nil : cleanL [] = true := rfl
@[simp] theorem cleanL_cons : cleanL (d :: ds) = (clean d && cleanL ds) := rfl
theorem cleanL_map {α : Type} {g : α → D} (h : ∀ x, clean (g x) = true) (l : List α) : cleanL (l.map g) = true := by
  induction l with
  | nil => rfl
  | cons a l ih => simp [h a, ih]
end
end Fl

/-! Fl: the functions of defs that stand in many laws (). -/
namespace Fl
open PySem

noncomputable def b_is_whole : Stm :=
  sRet (eAnd (eIsiV "int" 0) (eNot (eIsiV "bool" 0)))
noncomputable def m_is_whole : Fn := fnM 1 1 false b_is_whole

noncomputable def b_divisor : Stm :=
  sSeq (sAsg (eB gAbs (aC (eV 0) aN)) (gN 0))
  (sSeq (sAsg (eB gAbs (aC (eV 1) aN)) (gN 1))
  (sSeq (sWhile (bOf (eBin fGt (eV 1) (eC (.int 0)))) (sPar 0 1 (aC (eV 1) (aC (eBin fMod (eV 0) (eV 1)) (aN)))))
  (sRet (eM 0))))
noncomputable def m_divisor : Fn := fnM 2 2 false b_divisor

noncomputable def b__law_room : Stm :=
  sSeq (sAsg (eC (.int 0)) (gN 2))
  (sSeq (sIf (bOf (eBin fLt (eV 1) (eBV gLen 0))) (sAsg (eIxV 0 (eV 1)) (gN 2)) (sPass))
  (sSeq (sAsg (eC (.int 0)) (gN 3))
  (sSeq (sIf (bOf (eBin fGe (eV 2) (eBin fPow (eC (.int 10)) (eC (.int 18))))) (sAsg (eV 2) (gN 3)) (sPass))
  (sRet (eLst (aC (eM 3) (aC (eBin fMod (eBin mulD (eBin addD (eBin addD (eBin fMod (eV 2) (eC (.int 2147483629))) (eBin mulD (eBin mulD (eC (.int 104729)) (eV 1)) (eV 1))) (eC (.int 7))) (eC (.int 48271))) (eC (.int 2147483647))) (aN))))))))
noncomputable def m__law_room : Fn := fnM 2 4 false b__law_room

noncomputable def b__law_take : Stm :=
  sSeq (sIf (bOf (eBin fGt (eIxV 0 (eC (.int 0))) (eC (.int 0)))) (sSeq (sAsg (eBin fMod (eIxV 0 (eC (.int 0))) (eV 1)) (gN 2))
  (sSeq (sSetIx 0 (eBin fDiv (eIxV 0 (eC (.int 0))) (eV 1)) (eC (.int 0)))
  (sRet (eM 2)))) (sPass))
  (sSeq (sSetIx 0 (eBin fMod (eBin addD (eBin mulD (eIxV 0 (eC (.int 1))) (eC (.int 48271))) (eC (.int 39373))) (eC (.int 2147483647))) (eC (.int 1)))
  (sSeq (sAsg (eBin fDiv (eBin fMod (eBin mulD (eIxV 0 (eC (.int 1))) (eIxV 0 (eC (.int 1)))) (eC (.int 2147483629))) (eC (.int 16))) (gN 2))
  (sSeq (sIf (bOf (eBin fGt (eV 1) (eBin fPow (eC (.int 10)) (eC (.int 6))))) (sSeq (sSetIx 0 (eBin fMod (eBin addD (eBin mulD (eIxV 0 (eC (.int 1))) (eC (.int 48271))) (eC (.int 39373))) (eC (.int 2147483647))) (eC (.int 1)))
  (sAsg (eBin addD (eBin mulD (eV 2) (eC (.int 2147483629))) (eBin fMod (eBin mulD (eIxV 0 (eC (.int 1))) (eIxV 0 (eC (.int 1)))) (eC (.int 2147483587)))) (gN 2))) (sPass))
  (sRet (eBin fMod (eV 2) (eV 1))))))
noncomputable def m__law_take : Fn := fnM 2 3 true b__law_take

noncomputable def b__law_lowest : Stm :=
  sSeq (sAsg (eB gAbs (aC (eV 0) aN)) (gN 2))
  (sSeq (sAsg (eV 1) (gN 3))
  (sSeq (sWhile (bOf (eBin fNe (eV 3) (eC (.int 0)))) (sPar 2 3 (aC (eV 3) (aC (eBin fMod (eV 2) (eV 3)) (aN)))))
  (sRet (eTup (aC (eBin fDiv (eV 0) (eV 2)) (aC (eBin fDiv (eV 1) (eV 2)) (aN)))))))
noncomputable def m__law_lowest : Fn := fnM 2 4 false b__law_lowest

noncomputable def b__law_whole : Stm :=
  sRet (eAnd (eIsiV "int" 0) (eNot (eIsiV "bool" 0)))
noncomputable def m__law_whole : Fn := fnM 1 1 false b__law_whole

noncomputable def b_is_fraction : Stm :=
  sSeq (sIf (bOr (bNot (bOf (eIsiV "tuple" 0))) (bOr (bOf (eBin fNe (eBV gLen 0) (eC (.int 2)))) (bOr (bNot (bOf (eCall m_is_whole (aC (eIxV 0 (eC (.int 0))) (aN))))) (bNot (bOf (eCall m_is_whole (aC (eIxV 0 (eC (.int 1))) (aN)))))))) (sRet (eC (.bl false))) (sPass))
  (sRet (eAnd (eBin fGt (eIxV 0 (eC (.int 1))) (eC (.int 0))) (eBin fEq (eCall m_divisor (aC (eIxV 0 (eC (.int 0))) (aC (eIxV 0 (eC (.int 1))) (aN)))) (eC (.int 1)))))
noncomputable def m_is_fraction : Fn := fnM 1 1 false b_is_fraction

noncomputable def b__law_is_fraction : Stm :=
  sSeq (sIf (bOr (bNot (bOf (eIsiV "tuple" 0))) (bOr (bOf (eBin fNe (eBV gLen 0) (eC (.int 2)))) (bNot (bOf (eCall m__law_whole (aC (eIxV 0 (eC (.int 0))) (aN))))))) (sRet (eC (.bl false))) (sPass))
  (sSeq (sIf (bOr (bNot (bOf (eCall m__law_whole (aC (eIxV 0 (eC (.int 1))) (aN))))) (bOf (eBin fLt (eIxV 0 (eC (.int 1))) (eC (.int 1))))) (sRet (eC (.bl false))) (sPass))
  (sRet (eBin fEq (eCall m__law_lowest (aC (eIxV 0 (eC (.int 0))) (aC (eIxV 0 (eC (.int 1))) (aN)))) (eV 0))))
noncomputable def m__law_is_fraction : Fn := fnM 1 1 false b__law_is_fraction

noncomputable def b_is_less : Stm :=
  sRet (eBin fLt (eBin mulD (eIxV 0 (eC (.int 0))) (eIxV 1 (eC (.int 1)))) (eBin mulD (eIxV 1 (eC (.int 0))) (eIxV 0 (eC (.int 1)))))
noncomputable def m_is_less : Fn := fnM 2 2 false b_is_less

noncomputable def b_ceiling : Stm :=
  sRet (eBin fSub (eC (.int 0)) (eBin fDiv (eBin fSub (eC (.int 0)) (eIxV 0 (eC (.int 0)))) (eIxV 0 (eC (.int 1)))))
noncomputable def m_ceiling : Fn := fnM 1 1 false b_ceiling

noncomputable def b__law_less : Stm :=
  sRet (eBin fLt (eBin mulD (eIxV 0 (eC (.int 0))) (eIxV 1 (eC (.int 1)))) (eBin mulD (eIxV 1 (eC (.int 0))) (eIxV 0 (eC (.int 1)))))
noncomputable def m__law_less : Fn := fnM 2 2 false b__law_less

noncomputable def b__law_sum : Stm :=
  sRet (eCall m__law_lowest (aC (eBin addD (eBin mulD (eIxV 0 (eC (.int 0))) (eIxV 1 (eC (.int 1)))) (eBin mulD (eIxV 1 (eC (.int 0))) (eIxV 0 (eC (.int 1))))) (aC (eBin mulD (eIxV 0 (eC (.int 1))) (eIxV 1 (eC (.int 1)))) (aN))))
noncomputable def m__law_sum : Fn := fnM 2 2 false b__law_sum

noncomputable def b__law_fraction : Stm :=
  sSeq (sAsg (eCallX m__law_take 0 (aC (eC (.int 4)) (aN))) (gN 1))
  (sSeq (sAsg (eIx (eLst (aC (eC (.int 3)) (aC (eC (.int 40)) (aC (eBin fPow (eC (.int 10)) (eC (.int 6))) (aC (eBin fPow (eC (.int 10)) (eC (.int 15))) (aN)))))) (eV 1)) (gN 2))
  (sRet (eCall m__law_lowest (aC (eBin fSub (eCallX m__law_take 0 (aC (eBin addD (eBin mulD (eC (.int 2)) (eV 2)) (eC (.int 1))) (aN))) (eV 2)) (aC (eBin addD (eC (.int 1)) (eCallX m__law_take 0 (aC (eV 2) (aN)))) (aN))))))
noncomputable def m__law_fraction : Fn := fnM 1 3 true b__law_fraction

noncomputable def b_fraction : Stm :=
  sSeq (sIf (bOr (bNot (bOf (eCall m_is_whole (aC (eV 0) (aN))))) (bOr (bNot (bOf (eCall m_is_whole (aC (eV 1) (aN))))) (bOf (eBin fEq (eV 1) (eC (.int 0)))))) (sRaise "NoNumber" (aN)) (sPass))
  (sSeq (sAsg (eCall m_divisor (aC (eV 0) (aC (eV 1) (aN)))) (gN 2))
  (sSeq (sIf (bOf (eBin fLt (eV 1) (eC (.int 0)))) (sAsg (eBin fSub (eC (.int 0)) (eV 2)) (gN 2)) (sPass))
  (sRet (eTup (aC (eBin fDiv (eV 0) (eV 2)) (aC (eBin fDiv (eV 1) (eV 2)) (aN)))))))
noncomputable def m_fraction : Fn := fnM 2 3 false b_fraction

noncomputable def b_added : Stm :=
  sRet (eCall m_fraction (aC (eBin addD (eBin mulD (eIxV 0 (eC (.int 0))) (eIxV 1 (eC (.int 1)))) (eBin mulD (eIxV 1 (eC (.int 0))) (eIxV 0 (eC (.int 1))))) (aC (eBin mulD (eIxV 0 (eC (.int 1))) (eIxV 1 (eC (.int 1)))) (aN))))
noncomputable def m_added : Fn := fnM 2 2 false b_added

noncomputable def b_lessened : Stm :=
  sRet (eCall m_fraction (aC (eBin fSub (eBin mulD (eIxV 0 (eC (.int 0))) (eIxV 1 (eC (.int 1)))) (eBin mulD (eIxV 1 (eC (.int 0))) (eIxV 0 (eC (.int 1))))) (aC (eBin mulD (eIxV 0 (eC (.int 1))) (eIxV 1 (eC (.int 1)))) (aN))))
noncomputable def m_lessened : Fn := fnM 2 2 false b_lessened

noncomputable def b_timed : Stm :=
  sRet (eCall m_fraction (aC (eBin mulD (eIxV 0 (eC (.int 0))) (eIxV 1 (eC (.int 0)))) (aC (eBin mulD (eIxV 0 (eC (.int 1))) (eIxV 1 (eC (.int 1)))) (aN))))
noncomputable def m_timed : Fn := fnM 2 2 false b_timed

noncomputable def b_divided : Stm :=
  sRet (eCall m_fraction (aC (eBin mulD (eIxV 0 (eC (.int 0))) (eIxV 1 (eC (.int 1)))) (aC (eBin mulD (eIxV 0 (eC (.int 1))) (eIxV 1 (eC (.int 0)))) (aN))))
noncomputable def m_divided : Fn := fnM 2 2 false b_divided

noncomputable def b__law_times : Stm :=
  sRet (eCall m__law_lowest (aC (eBin mulD (eIxV 0 (eC (.int 0))) (eIxV 1 (eC (.int 0)))) (aC (eBin mulD (eIxV 0 (eC (.int 1))) (eIxV 1 (eC (.int 1)))) (aN))))
noncomputable def m__law_times : Fn := fnM 2 2 false b__law_times

noncomputable def b__law_copied : Stm :=
  sRet (eTup (aC (eIxV 0 (eC (.int 0))) (aC (eLc 3 (iL (eIxV 0 (eC (.int 1)))) (gT 2 (gsC (gN 1) (gsC (gN 2) (gsN)))) (bYes) (eTup (aC (eG1V gList 1) (aC (eG1V gList 2) (aN)))) [1, 2]) (aN))))
noncomputable def m__law_copied : Fn := fnM 1 3 false b__law_copied

noncomputable def b__law_amount : Stm :=
  sSeq (sIf (bOf (eBin fEq (eCallX m__law_take 0 (aC (eC (.int 8)) (aN))) (eC (.int 7)))) (sRet (eCall m__law_lowest (aC (eBin addD (eC (.int 1)) (eCallX m__law_take 0 (aC (eBin fPow (eC (.int 10)) (eC (.int 12))) (aN)))) (aC (eIx (eLst (aC (eC (.int 7)) (aC (eC (.int 11)) (aC (eC (.int 1000)) (aC (eBin fPow (eC (.int 10)) (eC (.int 6))) (aN)))))) (eCallX m__law_take 0 (aC (eC (.int 4)) (aN)))) (aN))))) (sPass))
  (sRet (eCall m__law_lowest (aC (eBin addD (eC (.int 1)) (eCallX m__law_take 0 (aC (eC (.int 9)) (aN)))) (aC (eIx (eLst (aC (eC (.int 1)) (aC (eC (.int 1)) (aC (eC (.int 2)) (aC (eC (.int 3)) (aN)))))) (eCallX m__law_take 0 (aC (eC (.int 4)) (aN)))) (aN)))))
noncomputable def m__law_amount : Fn := fnM 1 1 true b__law_amount

noncomputable def b__law_side : Stm :=
  sSeq (sAsg (eDict0) (gN 3))
  (sSeq (sFor (iR1 (aC (eCallX m__law_take 0 (aC (eBin addD (eV 2) (eC (.int 1))) (aN))) (aN))) (gN 4)
  (sSeq (sAsg (eCallX m__law_take 0 (aC (eV 1) (aN))) (gN 5))
  (sDPutV 3 (eCallX m__law_amount 0 (aN)) (eV 5))))
  (sRet (eLc 6 (iL (eG1 gSort (eG1V gKeys 3))) (gN 5) (bYes) (eTup (aC (eV 5) (aC (eDGetV 3 (eV 5)) (aN)))) [5])))
noncomputable def m__law_side : Fn := fnM 3 6 true b__law_side

noncomputable def b__law_is_stand : Stm :=
  sSeq (sIf (bOr (bNot (bOf (eIsiV "list" 0))) (bOf (eBin fNe (eBV gLen 0) (eBV gLen 1)))) (sRet (eC (.bl false))) (sPass))
  (sRet (eBin fEq (eLc 3 (iR1 (aC (eBV gLen 1) (aN))) (gN 2) (bOr (bNot (bOf (eCall m__law_is_fraction (aC (eIxV 0 (eV 2)) (aN))))) (bOf (eBin fNe (eIxV 0 (eV 2)) (eIxV 1 (eV 2))))) (eV 2) [2]) (eLst (aN))))
noncomputable def m__law_is_stand : Fn := fnM 2 3 false b__law_is_stand

noncomputable def b__law_change : Stm :=
  sSeq (sAsg (eBin mulD (eLst (aC (eTup (aC (eC (.int 0)) (aC (eC (.int 1)) (aN)))) (aN))) (eV 0)) (gN 2))
  (sSeq (sFor (iL (eIxV 1 (eC (.int 1)))) (gT 2 (gsC (gN 3) (gsC (gN 4) (gsN))))
  (sSetIx 2 (eCall m__law_sum (aC (eIxV 2 (eV 3)) (aC (eV 4) (aN)))) (eV 3)))
  (sSeq (sFor (iL (eIxV 1 (eC (.int 0)))) (gT 2 (gsC (gN 3) (gsC (gN 4) (gsN))))
  (sSetIx 2 (eCall m__law_sum (aC (eIxV 2 (eV 3)) (aC (eTup (aC (eBin fSub (eC (.int 0)) (eIxV 4 (eC (.int 0)))) (aC (eIxV 4 (eC (.int 1))) (aN)))) (aN)))) (eV 3)))
  (sRet (eM 2))))
noncomputable def m__law_change : Fn := fnM 2 5 false b__law_change

noncomputable def b_change_of : Stm :=
  sSeq (sAsg (eBin mulD (eLst (aC (eC (.tup [.int 0, .int 1])) (aN))) (eIxV 0 (eC (.int 0)))) (gN 2))
  (sSeq (sFor (iL (eIx (eIx (eIxV 0 (eC (.int 1))) (eV 1)) (eC (.int 1)))) (gT 2 (gsC (gN 3) (gsC (gN 4) (gsN))))
  (sSetIx 2 (eV 4) (eV 3)))
  (sSeq (sFor (iL (eIx (eIx (eIxV 0 (eC (.int 1))) (eV 1)) (eC (.int 0)))) (gT 2 (gsC (gN 3) (gsC (gN 4) (gsN))))
  (sSetIx 2 (eCall m_lessened (aC (eIxV 2 (eV 3)) (aC (eV 4) (aN)))) (eV 3)))
  (sRet (eM 2))))
noncomputable def m_change_of : Fn := fnM 2 5 false b_change_of

noncomputable def b__law_deed : Stm :=
  sRet (eTup (aC (eCallX m__law_side 0 (aC (eV 1) (aC (eV 2) (aN)))) (aC (eCallX m__law_side 0 (aC (eV 1) (aC (eV 2) (aN)))) (aN))))
noncomputable def m__law_deed : Fn := fnM 3 3 true b__law_deed

noncomputable def b_changes_of : Stm :=
  sRet (eLc 2 (iR1 (aC (eB gLen (aC (eIxV 0 (eC (.int 1))) aN)) (aN))) (gN 1) (bYes) (eCall m_change_of (aC (eV 0) (aC (eV 1) (aN)))) [1])
noncomputable def m_changes_of : Fn := fnM 1 2 false b_changes_of

noncomputable def b_change_by : Stm :=
  sSeq (sAsg (eBin mulD (eLst (aC (eC (.tup [.int 0, .int 1])) (aN))) (eIxV 0 (eC (.int 0)))) (gN 2))
  (sSeq (sFor (iZ (aC (eCall m_changes_of (aC (eV 0) (aN))) (aC (eV 1) (aN)))) (gT 2 (gsC (gN 3) (gsC (gN 4) (gsN))))
  (sIf (bOf (eBin fGt (eIxV 4 (eC (.int 0))) (eC (.int 0)))) (sAsg (eLc 7 (iZ (aC (eV 2) (aC (eV 3) (aN)))) (gT 2 (gsC (gN 5) (gsC (gN 6) (gsN)))) (bYes) (eCall m_added (aC (eV 5) (aC (eCall m_timed (aC (eV 4) (aC (eV 6) (aN)))) (aN)))) [5, 6]) (gN 2)) (sPass)))
  (sRet (eM 2)))
noncomputable def m_change_by : Fn := fnM 2 7 false b_change_by

noncomputable def b_are_shares_of : Stm :=
  sSeq (sIf (bOr (bNot (bOf (eIsiV "list" 0))) (bOf (eBinV fNe (eBV gLen 0) 1))) (sRet (eC (.bl false))) (sPass))
  (sRet (eG1 gAll (eLc 3 (iL (eV 0)) (gN 2) (bYes) (eAnd (eCall m_is_fraction (aC (eV 2) (aN))) (eBin fGe (eIxV 2 (eC (.int 0))) (eC (.int 0)))) [2])))
noncomputable def m_are_shares_of : Fn := fnM 2 3 false b_are_shares_of

noncomputable def b__law_stand : Stm :=
  sSeq (sAsg (eLst (aN)) (gN 2))
  (sSeq (sFor (iR1 (aC (eV 1) (aN))) (gN 3)
  (sSeq (sAsg (eTup (aC (eC (.int 0)) (aC (eC (.int 1)) (aN)))) (gN 4))
  (sSeq (sIf (bOf (eBin fEq (eCallX m__law_take 0 (aC (eC (.int 2)) (aN))) (eC (.int 1)))) (sAsg (eCallX m__law_amount 0 (aN)) (gN 4)) (sPass))
  (sApp 2 (eV 4)))))
  (sRet (eM 2)))
noncomputable def m__law_stand : Fn := fnM 2 5 true b__law_stand

noncomputable def b_is_stand : Stm :=
  sRet (eCallB m_are_shares_of [.v 1, .e (eIxV 0 (eC (.int 0)))] (aC (eV 1) (aC (eIxV 0 (eC (.int 0))) (aN))))
noncomputable def m_is_stand : Fn := fnM 2 2 false b_is_stand

noncomputable def b__law_entry : Stm :=
  sSeq (sIf (bOf (eBin fLt (eCallX m__law_take 0 (aC (eC (.int 5)) (aN))) (eC (.int 2)))) (sRet (eTup (aC (eC (.int 0)) (aC (eC (.int 1)) (aN))))) (sPass))
  (sSeq (sAsg (eBin mulD (eBin addD (eC (.int 1)) (eCallX m__law_take 0 (aC (eC (.int 9)) (aN)))) (eIx (eLst (aC (eC (.int 1)) (aC (eUn fNeg (eC (.int 1))) (aN)))) (eCallX m__law_take 0 (aC (eC (.int 2)) (aN))))) (gN 1))
  (sSeq (sIf (bOf (eBin fEq (eCallX m__law_take 0 (aC (eC (.int 12)) (aN))) (eC (.int 11)))) (sSeq (sAsg (eIx (eLst (aC (eC (.int 1)) (aC (eC (.int 7)) (aC (eBin addD (eBin fPow (eC (.int 10)) (eC (.int 6))) (eC (.int 3))) (aC (eBin addD (eBin fPow (eC (.int 10)) (eC (.int 12))) (eC (.int 39))) (aN)))))) (eCallX m__law_take 0 (aC (eC (.int 4)) (aN)))) (gN 2))
  (sRet (eCall m__law_lowest (aC (eBin mulD (eV 1) (eBin addD (eC (.int 1)) (eCallX m__law_take 0 (aC (eBin fPow (eC (.int 10)) (eC (.int 6))) (aN))))) (aC (eV 2) (aN)))))) (sPass))
  (sRet (eCall m__law_lowest (aC (eV 1) (aC (eIx (eLst (aC (eC (.int 1)) (aC (eC (.int 1)) (aC (eC (.int 1)) (aC (eC (.int 2)) (aC (eC (.int 3)) (aN))))))) (eCallX m__law_take 0 (aC (eC (.int 5)) (aN)))) (aN)))))))
noncomputable def m__law_entry : Fn := fnM 1 3 true b__law_entry

noncomputable def b_are_fractions : Stm :=
  sRet (eAnd (eIsiV "list" 0) (eAnd (eBinV fEq (eBV gLen 0) 1) (eG1 gAll (eLc 3 (iL (eV 0)) (gN 2) (bYes) (eCall m_is_fraction (aC (eV 2) (aN))) [2]))))
noncomputable def m_are_fractions : Fn := fnM 2 3 false b_are_fractions

noncomputable def b__law_weighed : Stm :=
  sSeq (sAsg (eTup (aC (eC (.int 0)) (aC (eC (.int 1)) (aN)))) (gN 2))
  (sSeq (sFor (iZ (aC (eV 0) (aC (eV 1) (aN)))) (gT 2 (gsC (gN 3) (gsC (gN 4) (gsN))))
  (sIf (bAnd (bOf (eBin fNe (eIxV 3 (eC (.int 0))) (eC (.int 0)))) (bOf (eBin fNe (eIxV 4 (eC (.int 0))) (eC (.int 0))))) (sAsg (eCall m__law_sum (aC (eV 2) (aC (eCall m__law_times (aC (eV 3) (aC (eV 4) (aN)))) (aN)))) (gN 2)) (sPass)))
  (sRet (eM 2)))
noncomputable def m__law_weighed : Fn := fnM 2 5 false b__law_weighed

noncomputable def b_weighed : Stm :=
  sSeq (sAsg (eC (.tup [.int 0, .int 1])) (gN 2))
  (sSeq (sFor (iZ (aC (eV 0) (aC (eV 1) (aN)))) (gT 2 (gsC (gN 3) (gsC (gN 4) (gsN))))
  (sIf (bAnd (bOf (eBin fNe (eIxV 3 (eC (.int 0))) (eC (.int 0)))) (bOf (eBin fNe (eIxV 4 (eC (.int 0))) (eC (.int 0))))) (sAsg (eCall m_added (aC (eV 2) (aC (eCall m_timed (aC (eV 3) (aC (eV 4) (aN)))) (aN)))) (gN 2)) (sPass)))
  (sRet (eM 2)))
noncomputable def m_weighed : Fn := fnM 2 5 false b_weighed

end Fl

/-! Fl: what the defs that stand in many laws reckon. -/
namespace Fl
open PySem

/-! ### is_whole, divisor, _law_lowest -/
def isInt : D → Bool
  | .int _ => true
  | _ => false
theorem is_whole_spec {d : D} (h : (kindD d).isSome = true) : m_is_whole [d] = .ok (.bl (isInt d), .dead) := by
  cases d <;> simp_all [m_is_whole, b_is_whole, kindD, isInt, instOf, isDead]
theorem whole_spec {d : D} (h : (kindD d).isSome = true) : m__law_whole [d] = .ok (.bl (isInt d), .dead) := by
  cases d <;> simp_all [m__law_whole, b__law_whole, kindD, isInt, instOf, isDead]
theorem loop_divisor (n : Nat) : ∀ (x y : Nat), y ≤ n → ∃ k, whileN (bOf (eBin fGt (eV 1) (eC (.int 0)))) (sPar 0 1 (aC (eV 1) (aC (eBin fMod (eV 0) (eV 1)) (aN)))) k [.int x, .int y] = .nx [.int (Nat.gcd x y), .int 0] := by
  induction n with
  | zero =>
    intro x y h
    obtain rfl : y = 0 := by omega
    exact ⟨1, by simp [whileN]⟩
  | succ n ih =>
    intro x y h
    by_cases hy : y = 0
    · subst hy; exact ⟨1, by simp [whileN]⟩
    · obtain ⟨k, hk⟩ := ih y (x % y) (by have := Nat.mod_lt x (Nat.pos_of_ne_zero hy); omega)
      refine ⟨k + 1, ?_⟩
      have e : fMod (.int (x : Int)) (.int (y : Int)) = some (.int ((x % y : Nat) : Int)) := by rw [fMod_of (by omega)]; rfl
      have hp : 0 < y := Nat.pos_of_ne_zero hy
      simp [whileN, e, hp]
      rw [← Int.natCast_emod, hk, Nat.gcd_comm y, ← Nat.gcd_rec, Nat.gcd_comm]
theorem abs_ite (a : Int) : (if a < 0 then -a else a) = (a.natAbs : Int) := by split <;> omega
theorem divisor_spec (a b : Int) : m_divisor [.int a, .int b] = .ok (.int (Int.gcd a b), .dead) := by
  obtain ⟨k, hk⟩ := loop_divisor b.natAbs a.natAbs b.natAbs (Nat.le_refl _)
  have := sWhile_eq hk (by simp)
  simp [m_divisor, b_divisor, this, Int.gcd]
theorem loop_lowest (t b : D) (n : Nat) : ∀ (x y : Nat), y ≤ n → ∃ k, whileN (bOf (eBin fNe (eV 3) (eC (.int 0)))) (sPar 2 3 (aC (eV 3) (aC (eBin fMod (eV 2) (eV 3)) (aN)))) k [t, b, .int x, .int y] = .nx [t, b, .int (Nat.gcd x y), .int 0] := by
  induction n with
  | zero =>
    intro x y h
    obtain rfl : y = 0 := by omega
    exact ⟨1, by simp [whileN]⟩
  | succ n ih =>
    intro x y h
    by_cases hy : y = 0
    · subst hy; exact ⟨1, by simp [whileN]⟩
    · obtain ⟨k, hk⟩ := ih y (x % y) (by have := Nat.mod_lt x (Nat.pos_of_ne_zero hy); omega)
      refine ⟨k + 1, ?_⟩
      have e : fMod (.int (x : Int)) (.int (y : Int)) = some (.int ((x % y : Nat) : Int)) := by rw [fMod_of (by omega)]; rfl
      simp [whileN, e, hy]
      rw [← Int.natCast_emod, hk, Nat.gcd_comm y, ← Nat.gcd_rec, Nat.gcd_comm]
theorem lowest_raw (a b : Int) (hb : 0 < b) (hs : b.natAbs < 2 ^ 8999) : m__law_lowest [.int a, .int b] = .ok (.tup [.int (a / (Int.gcd a b : Nat)), .int (b / (Int.gcd a b : Nat))], .dead) := by
  obtain ⟨k, hk⟩ := loop_lowest (.int a) (.int b) b.natAbs a.natAbs b.natAbs (Nat.le_refl _)
  have := sWhile_eq hk (by simp)
  have hn : ((b.natAbs : Nat) : Int) = b := by omega
  rw [hn] at this
  have g0 : 0 < Nat.gcd a.natAbs b.natAbs := Nat.gcd_pos_of_pos_right _ (by omega)
  have g1 : (((Nat.gcd a.natAbs b.natAbs : Nat)) : Int).natAbs.log2 < 9000 := by
    have h1 : Nat.gcd a.natAbs b.natAbs ≤ b.natAbs := Nat.gcd_le_right _ (by omega)
    exact Nat.lt_of_lt_of_le (log2_lt (k := 8999) (by rw [Int.natAbs_natCast]; omega) (by decide)) (by decide)
  have d1 := fDiv_of (a := a) (b := ((Nat.gcd a.natAbs b.natAbs : Nat) : Int)) (by omega) g1
  have d2 := fDiv_of (a := b) (b := ((Nat.gcd a.natAbs b.natAbs : Nat) : Int)) (by omega) g1
  simp [m__law_lowest, b__law_lowest, this, d1, d2, Int.gcd]

/-! ### fractions as rational numbers -/
def fr (q : Rat) : D := .tup [.int q.num, .int (q.den : Int)]
@[simp] theorem own_fr (q : Rat) : own (fr q) = false := rfl
@[simp] theorem sh_fr (q : Rat) : sh (fr q) = fr q := by simp [fr]
@[simp] theorem isDead_fr (q : Rat) : isDead (fr q) = false := rfl
@[simp] theorem ixD_fr0 (q : Rat) : ixD (fr q) 0 = some (.int q.num) := by simp [fr]
@[simp] theorem ixD_fr1 (q : Rat) : ixD (fr q) 1 = some (.int q.den) := by simp [fr]
theorem fr_divInt {a b : Int} (hb : 0 < b) : fr (Rat.divInt a b) = .tup [.int (a / (Int.gcd a b : Nat)), .int (b / (Int.gcd a b : Nat))] := by
  unfold fr
  rw [Rat.num_divInt, Rat.den_divInt]
  rw [Int.sign_eq_one_of_pos hb, Int.one_mul, Int.gcd_comm b a, if_neg (by omega)]
  have : ((b.natAbs : Nat) : Int) = b := by omega
  rw [Int.natCast_ediv, this]
theorem lowest_spec {a b : Int} (hb : 0 < b) (hs : b.natAbs < 2 ^ 8999) : m__law_lowest [.int a, .int b] = .ok (fr (Rat.divInt a b), .dead) := by
  rw [lowest_raw a b hb hs, fr_divInt hb]

/-! ### the draws -/
@[simp] theorem fPow_18 : fPow (.int 10) (.int 18) = some (.int 1000000000000000000) := by simp [fPow, iI]
@[simp] theorem fPow_15 : fPow (.int 10) (.int 15) = some (.int 1000000000000000) := by simp [fPow, iI]
@[simp] theorem fPow_12 : fPow (.int 10) (.int 12) = some (.int 1000000000000) := by simp [fPow, iI]
@[simp] theorem fPow_6 : fPow (.int 10) (.int 6) = some (.int 1000000) := by simp [fPow, iI]
theorem mulD_small {a b : Int} (ha : a.natAbs < 2 ^ 64) (hb : b.natAbs < 2 ^ 64) : mulD (.int a) (.int b) = some (.int (a * b)) :=
  mulD_of (by have := log2_lt ha (by decide); have := log2_lt hb (by decide); omega)
/-- a room: what is left of a great cell, and a seed -/
def rm (l s : Int) : D := .lst true [.int l, .int s]
def RoomOk (d : D) : Prop := ∃ l s : Int, d = rm l s ∧ 0 ≤ l ∧ 0 ≤ s ∧ s < 2147483647
theorem room_spec {ns : List Int} {k : Nat} (hk : k < 1000) : ∃ r, m__law_room [.frz (ns.map .int), .int k] = .ok (r, .dead) ∧ RoomOk r := by
  have key : ∀ cell : Int, ∃ s : Int, 0 ≤ s ∧ s < 2147483647 ∧ ∃ a b c g : Int,
      fMod (.int cell) (.int 2147483629) = some (.int a) ∧ mulD (.int 104729) (.int k) = some (.int b) ∧ mulD (.int b) (.int k) = some (.int c) ∧ mulD (.int (a + c + 7)) (.int 48271) = some (.int g) ∧ fMod (.int g) (.int 2147483647) = some (.int s) := fun cell => by
    have h1 := Int.emod_nonneg cell (show (2147483629 : Int) ≠ 0 by decide)
    have h2 := Int.emod_lt_of_pos cell (show (0 : Int) < 2147483629 by decide)
    have h3 : (k : Int) * k ≤ 1000 * 1000 := Int.mul_le_mul (by omega) (by omega) (by omega) (by omega)
    have h4 : 0 ≤ (k : Int) * k := Int.mul_nonneg (by omega) (by omega)
    exact ⟨(cell % 2147483629 + 104729 * k * k + 7) * 48271 % 2147483647, Int.emod_nonneg _ (by decide), Int.emod_lt_of_pos _ (by decide), _, _, _, _,
      fMod_of (by decide), mulD_small (by decide) (by omega), mulD_small (by omega) (by omega), mulD_small (by rw [Int.mul_assoc]; omega) (by decide), fMod_of (by decide)⟩
  have fin : ∀ cell : Int, ∃ r, RoomOk r ∧ (∃ l s : Int, r = rm l s ∧ (if 1000000000000000000 ≤ cell then l = cell else l = 0) ∧ ∃ a b c g : Int,
      fMod (.int cell) (.int 2147483629) = some (.int a) ∧ mulD (.int 104729) (.int k) = some (.int b) ∧ mulD (.int b) (.int k) = some (.int c) ∧ mulD (.int (a + c + 7)) (.int 48271) = some (.int g) ∧ fMod (.int g) (.int 2147483647) = some (.int s)) := fun cell => by
    obtain ⟨s, s0, s1, h⟩ := key cell
    by_cases hc : 1000000000000000000 ≤ cell
    · exact ⟨rm cell s, ⟨cell, s, rfl, by omega, s0, s1⟩, cell, s, rfl, by simp [hc], h⟩
    · exact ⟨rm 0 s, ⟨0, s, rfl, by omega, s0, s1⟩, 0, s, rfl, by simp [hc], h⟩
  by_cases hl : k < ns.length
  · obtain ⟨r, hr, l, s, rfl, hcell, a, b, c, g, e1, e2, e3, e4, e5⟩ := fin (ns[k])
    refine ⟨_, ?_, hr⟩
    have hi : L2.atI (ns.map D.int) (k : Int) = some (.int ns[k]) := by rw [atI_of (by omega)]; simp [hl]
    by_cases hc : 1000000000000000000 ≤ ns[k]
    · simp [hc] at hcell
      subst hcell
      simp [m__law_room, b__law_room, hl, hi, hc, e1, e2, e3, e4, e5, rm]
    · simp [hc] at hcell
      subst hcell
      simp [m__law_room, b__law_room, hl, hi, hc, e1, e2, e3, e4, e5, rm]
  · obtain ⟨r, hr, l, s, rfl, hcell, a, b, c, g, e1, e2, e3, e4, e5⟩ := fin 0
    refine ⟨_, ?_, hr⟩
    simp at hcell
    subst hcell
    simp [m__law_room, b__law_room, hl, e1, e2, e3, e4, e5, rm]
theorem take_spec {r : D} {n : Int} (hr : RoomOk r) (h0 : 0 < n) (h1 : n < 2 ^ 60) : ∃ (x : Int) (r' : D), m__law_take [r, .int n] = .ok (.int x, r') ∧ RoomOk r' ∧ 0 ≤ x ∧ x < n := by
  obtain ⟨l, s, rfl, l0, s0, s1⟩ := hr
  by_cases hl : 0 < l
  · refine ⟨l % n, rm (l / n) s, ?_, ⟨_, _, rfl, Int.ediv_nonneg (by omega) (by omega), s0, s1⟩, Int.emod_nonneg _ (by omega), Int.emod_lt_of_pos _ h0⟩
    have e1 := fMod_of (a := l) h0
    have e2 := fDiv_of (a := l) h0 (Nat.lt_trans (log2_lt (k := 60) (by omega) (by decide)) (by decide))
    simp [m__law_take, b__law_take, rm, hl, e1, e2, L2.ixN]
  · obtain rfl : l = 0 := by omega
    -- a step of the seed
    have step : ∀ s : Int, 0 ≤ s → s < 2147483647 → ∃ g t u : Int, mulD (.int s) (.int 48271) = some (.int g) ∧ fMod (.int (g + 39373)) (.int 2147483647) = some (.int t) ∧ 0 ≤ t ∧ t < 2147483647 ∧ mulD (.int t) (.int t) = some (.int u) ∧ 0 ≤ u := fun s s0 s1 => by
      have t0 := Int.emod_nonneg (s * 48271 + 39373) (show (2147483647 : Int) ≠ 0 by decide)
      have t1 := Int.emod_lt_of_pos (s * 48271 + 39373) (show (0 : Int) < 2147483647 by decide)
      exact ⟨_, _, _, mulD_small (by omega) (by decide), fMod_of (by decide), t0, t1, mulD_small (by omega) (by omega), Int.mul_nonneg t0 t0⟩
    obtain ⟨g, t, u, e1, e2, t0, t1, e3, u0⟩ := step s s0 s1
    have e4 := fMod_of (a := u) (show (0 : Int) < 2147483629 by decide)
    have v0 := Int.emod_nonneg u (show (2147483629 : Int) ≠ 0 by decide)
    have v1 := Int.emod_lt_of_pos u (show (0 : Int) < 2147483629 by decide)
    have e5 := fDiv_of (a := u % 2147483629) (show (0 : Int) < 16 by decide) (by decide)
    by_cases hn : 1000000 < n
    · obtain ⟨g', t', u', f1, f2, t0', t1', f3, u0'⟩ := step t t0 t1
      have f4 := fMod_of (a := u') (show (0 : Int) < 2147483587 by decide)
      have f5 : mulD (.int (u % 2147483629 / 16)) (.int 2147483629) = some (.int (u % 2147483629 / 16 * 2147483629)) := mulD_small (by omega) (by decide)
      have f6 := fMod_of (a := u % 2147483629 / 16 * 2147483629 + u' % 2147483587) h0
      refine ⟨(u % 2147483629 / 16 * 2147483629 + u' % 2147483587) % n, rm 0 t', ?_, ⟨_, _, rfl, by omega, t0', t1'⟩, Int.emod_nonneg _ (by omega), Int.emod_lt_of_pos _ h0⟩
      simp [m__law_take, b__law_take, rm, e1, e2, e3, e4, e5, hn, f1, f2, f3, f4, f5, f6, L2.ixN]
    · have f6 := fMod_of (a := u % 2147483629 / 16) h0
      refine ⟨(u % 2147483629 / 16) % n, rm 0 t, ?_, ⟨_, _, rfl, by omega, t0, t1⟩, Int.emod_nonneg _ (by omega), Int.emod_lt_of_pos _ h0⟩
      simp [m__law_take, b__law_take, rm, e1, e2, e3, e4, e5, hn, f6, L2.ixN]

/-! ### is_fraction -/
def isFr : D → Bool
  | .tup [.int a, .int b] => decide (0 < b) && decide (Int.gcd a b = 1)
  | _ => false
def Known (d : D) : Prop := (kindD d).isSome = true
theorem Known.notDead {d : D} (h : Known d) : isDead d = false := by cases d <;> simp_all [Known, kindD, isDead]
theorem isi_known {d : D} (h : Known d) (n : String) : ∃ k, kindD d = some k ∧ isiD n [d] = some (.bl (instOf k n)) := by
  unfold Known at h
  cases e : kindD d with
  | none => rw [e] at h; simp at h
  | some k => exact ⟨k, rfl, by simp [e]⟩
theorem not_tup {d : D} {k : String} (h : kindD d = some k) (n : ∀ ds, d ≠ .tup ds) : instOf k "tuple" = false := by
  cases d <;> simp [kindD] at h <;> subst h <;> first | exact absurd rfl (n _) | decide
/-- what both looks at a fraction want to know of a thing -/
def Tame (d : D) : Prop := Known d ∧ ∀ x y, d = .tup [x, y] → Known x ∧ Known y ∧ ∀ b, y = .int b → b.natAbs < 2 ^ 8999
theorem sh_known {d : D} (h : Known d) : Known (sh d) := by cases d <;> simp_all [Known, kindD, sh]
@[simp] theorem isInt_sh (d : D) : isInt (sh d) = isInt d := by cases d <;> simp [isInt, sh]
@[simp] theorem isInt_int (a : Int) : isInt (.int a) = true := rfl
theorem fEq_pair (a b c d : Int) : fEq (.tup [.int a, .int b]) (.tup [.int c, .int d]) = some (.bl (a == c && (b == d && true))) := rfl
theorem is_fraction_tup {x y : D} (hx : Known x) (hy : Known y) : m_is_fraction [.tup [x, y]] = .ok (.bl (isFr (.tup [x, y])), .dead) := by
  have e1 := is_whole_spec hx
  have e2 := is_whole_spec hy
  have e1' := is_whole_spec (sh_known hx)
  have e2' := is_whole_spec (sh_known hy)
  cases hi : isInt x with
  | false =>
    have : isFr (.tup [x, y]) = false := by cases x <;> simp_all [isFr, isInt]
    cases ho : own x <;> simp [m_is_fraction, b_is_fraction, instOf, e1, e1', ho, hi, this]
  | true =>
    obtain ⟨a, rfl⟩ : ∃ a, x = .int a := by cases x <;> simp_all [isInt]
    cases hj : isInt y with
    | false =>
      have : isFr (.tup [.int a, y]) = false := by cases y <;> simp_all [isFr, isInt]
      cases ho : own y <;> simp [m_is_fraction, b_is_fraction, instOf, e1, e2, e2', ho, hj, this]
    | true =>
      obtain ⟨b, rfl⟩ : ∃ b, y = .int b := by cases y <;> simp_all [isInt]
      by_cases hb : 0 < b
      · simp [m_is_fraction, b_is_fraction, instOf, e1, e2, isFr, divisor_spec, hb]
        rw [Bool.eq_iff_iff]; simp; omega
      · simp [m_is_fraction, b_is_fraction, instOf, e1, e2, isFr, divisor_spec, hb]
theorem is_fraction_spec {d : D} (h : Tame d) : m_is_fraction [d] = .ok (.bl (isFr d), .dead) := by
  obtain ⟨hk, ht⟩ := h
  by_cases e : ∃ ds, d = .tup ds
  · obtain ⟨ds, rfl⟩ := e
    match ds, ht with
    | [x, y], ht => exact is_fraction_tup (ht x y rfl).1 (ht x y rfl).2.1
    | [], _ => simp [m_is_fraction, b_is_fraction, instOf, isFr]
    | [x], _ => simp [m_is_fraction, b_is_fraction, instOf, isFr]
    | x :: y :: z :: r, _ =>
      have : ((r.length : Int) + 1 + 1 + 1 == 2) = false := by simp; omega
      simp [m_is_fraction, b_is_fraction, instOf, isFr, this]
  · obtain ⟨k, h1, h2⟩ := isi_known hk "tuple"
    have h3 := not_tup h1 (fun ds h => e ⟨ds, h⟩)
    have h4 : isFr d = false := by cases d <;> simp_all [isFr]
    simp [m_is_fraction, b_is_fraction, hk.notDead, h1, h3, h4]
theorem law_is_fraction_tup {x y : D} (hx : Known x) (hy : Known y) (hs : ∀ b, y = .int b → b.natAbs < 2 ^ 8999) : m__law_is_fraction [.tup [x, y]] = .ok (.bl (isFr (.tup [x, y])), .dead) := by
  have e1 := whole_spec hx
  have e2 := whole_spec hy
  have e1' := whole_spec (sh_known hx)
  have e2' := whole_spec (sh_known hy)
  cases hi : isInt x with
  | false =>
    have : isFr (.tup [x, y]) = false := by cases x <;> simp_all [isFr, isInt]
    cases ho : own x <;> simp [m__law_is_fraction, b__law_is_fraction, instOf, e1, e1', ho, hi, this]
  | true =>
    obtain ⟨a, rfl⟩ : ∃ a, x = .int a := by cases x <;> simp_all [isInt]
    cases hj : isInt y with
    | false =>
      have : isFr (.tup [.int a, y]) = false := by cases y <;> simp_all [isFr, isInt]
      cases ho : own y <;> simp [m__law_is_fraction, b__law_is_fraction, instOf, e1, e2, e2', ho, hj, this]
    | true =>
      obtain ⟨b, rfl⟩ : ∃ b, y = .int b := by cases y <;> simp_all [isInt]
      by_cases hb : 0 < b
      · have hb' : ¬ b < 1 := by omega
        have hq : fEq (.tup [.int (a / (Int.gcd a b : Nat)), .int (b / (Int.gcd a b : Nat))]) (.tup [.int a, .int b]) = some (.bl (decide (Int.gcd a b = 1))) := by
          rw [fEq_pair]
          congr 2
          rw [Bool.eq_iff_iff]
          simp
          constructor
          · rintro ⟨_, h2⟩
            have g0 : 0 < Int.gcd a b := Int.gcd_pos_of_ne_zero_right _ (by omega)
            have h3 := Int.ediv_mul_cancel (a := b) (b := (Int.gcd a b : Nat)) (Int.gcd_dvd_right a b)
            rw [h2] at h3
            have h4 : b * ((Int.gcd a b : Nat) : Int) = b * 1 := by omega
            have := Int.eq_of_mul_eq_mul_left (by omega) h4
            omega
          · intro h
            rw [h]; simp
        simp [m__law_is_fraction, b__law_is_fraction, instOf, e1, e2, isFr, lowest_raw a b hb (hs b rfl), hb, hb', hq]
      · have hb' : b < 1 := by omega
        simp [m__law_is_fraction, b__law_is_fraction, instOf, e1, e2, isFr, hb, hb']
theorem law_is_fraction_spec {d : D} (h : Tame d) : m__law_is_fraction [d] = .ok (.bl (isFr d), .dead) := by
  obtain ⟨hk, ht⟩ := h
  by_cases e : ∃ ds, d = .tup ds
  · obtain ⟨ds, rfl⟩ := e
    match ds, ht with
    | [x, y], ht => exact law_is_fraction_tup (ht x y rfl).1 (ht x y rfl).2.1 (ht x y rfl).2.2
    | [], _ => simp [m__law_is_fraction, b__law_is_fraction, instOf, isFr]
    | [x], _ => simp [m__law_is_fraction, b__law_is_fraction, instOf, isFr]
    | x :: y :: z :: r, _ =>
      have : ((r.length : Int) + 1 + 1 + 1 == 2) = false := by simp; omega
      simp [m__law_is_fraction, b__law_is_fraction, instOf, isFr, this]
  · obtain ⟨k, h1, h2⟩ := isi_known hk "tuple"
    have h3 := not_tup h1 (fun ds h => e ⟨ds, h⟩)
    have h4 : isFr d = false := by cases d <;> simp_all [isFr]
    simp [m__law_is_fraction, b__law_is_fraction, hk.notDead, h1, h3, h4]

/-! ### loops -/
theorem forL_inv {f : Tgt} {body : Stm} (I : Env → Prop) : ∀ {ds : List D} {env : Env}, (∀ d ∈ ds, ∀ env, I env → ∃ e1 e2, f d env = some e1 ∧ (body e1 = .nx e2 ∨ body e1 = .ct e2) ∧ I e2) → I env → ∃ e, forL f body ds env = .nx e ∧ I e
  | [], env, _, h => ⟨env, rfl, h⟩
  | d :: ds, env, hs, h => by
    obtain ⟨e1, e2, h1, h2, h3⟩ := hs d (by simp) env h
    obtain ⟨e, h4, h5⟩ := forL_inv (ds := ds) I (fun d hd => hs d (List.mem_cons_of_mem _ hd)) h3
    refine ⟨e, ?_, h5⟩
    rw [forL_cons, h1]
    rcases h2 with h2 | h2 <;> simp only [h2] <;> exact h4
theorem mem_rangeD {lo : Int} {n : Nat} {d : D} (h : d ∈ rangeD lo n) : ∃ k : Nat, k < n ∧ d = .int (lo + k) := by
  unfold rangeD at h
  obtain ⟨k, h1, rfl⟩ := List.mem_map.mp h
  exact ⟨k, by simpa using h1, rfl⟩

theorem den_le {a b : Int} (hb : 0 < b) : ((Rat.divInt a b).den : Int) ≤ b := by
  rw [Rat.den_divInt, if_neg (by omega)]
  have := Nat.div_le_self b.natAbs (Int.gcd b a)
  omega
theorem RoomOk.nd {r : D} : RoomOk r → isDead r = false := fun ⟨l, s, h, _⟩ => by rw [h]; rfl
theorem lim60 {n : Nat} (h : n < 2 ^ 60) : n < 2 ^ 8999 := Nat.lt_of_lt_of_le h (Nat.pow_le_pow_right (by decide) (by decide))
theorem tame_fr {q : Rat} (h : q.den < 2 ^ 8999) : Tame (fr q) := ⟨rfl, fun x y e => by
  simp [fr] at e
  obtain ⟨rfl, rfl⟩ := e
  exact ⟨rfl, rfl, fun b e => by cases e; exact h⟩⟩
theorem tame_one {d : D} (h : Known d) (n : ∀ x y, d ≠ .tup [x, y]) : Tame d := ⟨h, fun x y e => absurd e (n x y)⟩
theorem tame_pair {x y : D} (hx : Known x) (hy : Known y) (h : ∀ b, y = .int b → b.natAbs < 2 ^ 8999) : Tame (.tup [x, y]) := ⟨rfl, fun x' y' e => by
  simp at e
  obtain ⟨rfl, rfl⟩ := e
  exact ⟨hx, hy, h⟩⟩

@[simp] theorem isFr_sh (d : D) : isFr (sh d) = isFr d := by
  cases d with
  | tup ds =>
    match ds with
    | [] => rfl
    | [x] => simp [isFr]
    | [x, y] => cases x <;> cases y <;> simp [isFr]
    | x :: y :: z :: r => simp [isFr]
  | _ => simp [isFr, sh]
theorem tame_sh {d : D} (h : Tame d) : Tame (sh d) := by
  obtain ⟨h1, h2⟩ := h
  refine ⟨sh_known h1, fun x y e => ?_⟩
  cases d with
  | tup ds =>
    match ds with
    | [] => simp at e
    | [a] => simp at e
    | a :: b :: c :: r => simp at e
    | [a, b] =>
      simp at e
      obtain ⟨rfl, rfl⟩ := e
      obtain ⟨q1, q2, q3⟩ := h2 a b rfl
      exact ⟨sh_known q1, sh_known q2, fun z hz => q3 z (by cases b <;> simp_all [sh])⟩
  | _ => simp [sh] at e
theorem Known.nd {d : D} (h : Known d) : isDead d = false := h.notDead

/-! ### sums, products, order of fractions -/
/-- both parts below 2 ^ n -/
def Sz (q : Rat) (n : Nat) : Prop := q.num.natAbs < 2 ^ n ∧ q.den < 2 ^ n
theorem Sz.mono {q : Rat} {n m : Nat} (h : Sz q n) (hm : n ≤ m) : Sz q m := ⟨Nat.lt_of_lt_of_le h.1 (Nat.pow_le_pow_right (by decide) hm), Nat.lt_of_lt_of_le h.2 (Nat.pow_le_pow_right (by decide) hm)⟩
theorem mul_lt2 {a b n m : Nat} (h : a < 2 ^ n) (h2 : b < 2 ^ m) : a * b < 2 ^ (n + m) := by rw [Nat.pow_add]; exact Nat.mul_lt_mul'' h h2
theorem sz_divInt {a b : Int} (hb : b ≠ 0) {n : Nat} (h1 : a.natAbs < 2 ^ n) (h2 : b.natAbs < 2 ^ n) : Sz (Rat.divInt a b) n := by
  constructor
  · rw [Rat.num_divInt]
    refine Nat.lt_of_le_of_lt (Int.natAbs_ediv_le_natAbs _ _) ?_
    rw [Int.natAbs_mul]
    have : b.sign.natAbs = 1 := by rw [Int.natAbs_sign, if_neg hb]
    rw [this]; omega
  · rw [Rat.den_divInt, if_neg hb]
    exact Nat.lt_of_le_of_lt (Nat.div_le_self _ _) h2
theorem mulD_sz {a b : Int} {n m : Nat} (ha : a.natAbs < 2 ^ n) (hb : b.natAbs < 2 ^ m) (h : n + m < 1000000) : mulD (.int a) (.int b) = some (.int (a * b)) := by
  refine mulD_of ?_
  by_cases hn : n = 0
  · subst hn
    have : a.natAbs = 0 := by simpa using ha
    rw [this]
    by_cases hm : m = 0
    · subst hm
      have : b.natAbs = 0 := by simpa using hb
      rw [this]; decide
    · have := log2_lt hb (by omega)
      have : Nat.log2 0 = 0 := by decide
      omega
  · have := log2_lt ha (by omega)
    by_cases hm : m = 0
    · subst hm
      have : b.natAbs = 0 := by simpa using hb
      rw [this]
      have : Nat.log2 0 = 0 := by decide
      omega
    · have := log2_lt hb (by omega)
      omega
theorem fraction_spec {a b : Int} (hb : b ≠ 0) (hs : b.natAbs < 2 ^ 8999) : m_fraction [.int a, .int b] = .ok (fr (Rat.divInt a b), .dead) := by
  have e1 := is_whole_spec (d := .int a) rfl
  have e2 := is_whole_spec (d := .int b) rfl
  have e3 := divisor_spec a b
  have g0 : 0 < Int.gcd a b := Int.gcd_pos_of_ne_zero_right _ hb
  have g1 : ((Int.gcd a b : Nat) : Int).natAbs.log2 < 9000 := by
    have h1 : Int.gcd a b ≤ b.natAbs := Nat.gcd_le_right _ (by omega)
    exact Nat.lt_of_lt_of_le (log2_lt (k := 8999) (by rw [Int.natAbs_natCast]; omega) (by decide)) (by decide)
  by_cases h0 : b < 0
  · have d1 : ∀ x, fDiv (.int x) (.int (-((Int.gcd a b : Nat) : Int))) = some (.int (x.fdiv (-((Int.gcd a b : Nat) : Int)))) := fun x => fDiv_neg (by omega) (by rw [Int.natAbs_neg]; exact g1)
    have : fr (Rat.divInt a b) = .tup [.int (a.fdiv (-((Int.gcd a b : Nat) : Int))), .int (b.fdiv (-((Int.gcd a b : Nat) : Int)))] := by
      unfold fr
      rw [Rat.num_divInt, Rat.den_divInt, if_neg hb, Int.sign_eq_neg_one_of_neg h0, Int.gcd_comm b a]
      have fd : ∀ x : Int, ((Int.gcd a b : Nat) : Int) ∣ x → x.fdiv (-((Int.gcd a b : Nat) : Int)) = (-x) / ((Int.gcd a b : Nat) : Int) := fun x ⟨k, hk⟩ => by
        rw [Int.fdiv_neg (by omega), if_pos ⟨k, hk⟩, Int.fdiv_eq_ediv_of_nonneg _ (by omega), hk, ← Int.mul_neg, Int.mul_ediv_cancel_left _ (by omega), Int.mul_ediv_cancel_left _ (by omega)]
      rw [fd a (Int.gcd_dvd_left a b), fd b (Int.gcd_dvd_right a b), Int.natCast_ediv]
      have : ((b.natAbs : Nat) : Int) = -b := by omega
      rw [this, Int.neg_one_mul]
    have hbz : (b == 0) = false := by simpa using hb
    simp [m_fraction, b_fraction, e1, e2, e3, hbz, h0, d1, this]
  · have d1 : ∀ x, fDiv (.int x) (.int ((Int.gcd a b : Nat) : Int)) = some (.int (x / ((Int.gcd a b : Nat) : Int))) := fun x => fDiv_of (by omega) g1
    have := fr_divInt (a := a) (b := b) (by omega)
    have hbz : (b == 0) = false := by simpa using hb
    simp [m_fraction, b_fraction, e1, e2, e3, hbz, h0, d1, this]
theorem den0 (q : Rat) : ((q.den : Nat) : Int) ≠ 0 := by have := q.den_nz; omega
theorem den_pos (q : Rat) : 0 < ((q.den : Nat) : Int) := by have := q.den_nz; omega
theorem add_eq (p q : Rat) : p + q = Rat.divInt (p.num * q.den + q.num * p.den) (p.den * q.den) := by
  conv => lhs; rw [← Rat.num_divInt_den p, ← Rat.num_divInt_den q]
  exact Rat.divInt_add_divInt _ _ (den0 p) (den0 q)
theorem sub_eq (p q : Rat) : p - q = Rat.divInt (p.num * q.den - q.num * p.den) (p.den * q.den) := by
  conv => lhs; rw [← Rat.num_divInt_den p, ← Rat.num_divInt_den q]
  exact Rat.divInt_sub_divInt _ _ (den0 p) (den0 q)
theorem mul_eq (p q : Rat) : p * q = Rat.divInt (p.num * q.num) (p.den * q.den) := by
  conv => lhs; rw [← Rat.num_divInt_den p, ← Rat.num_divInt_den q]
  exact Rat.divInt_mul_divInt _ _
theorem div_eq (p q : Rat) : p / q = Rat.divInt (p.num * q.den) (p.den * q.num) := by
  conv => lhs; rw [Rat.div_def, ← Rat.num_divInt_den p, ← Rat.num_divInt_den q, Rat.inv_divInt]
  exact Rat.divInt_mul_divInt _ _
theorem sum_lt {a b : Int} {n : Nat} (h1 : a.natAbs < 2 ^ n) (h2 : b.natAbs < 2 ^ n) : (a + b).natAbs < 2 ^ (n + 1) := by rw [Nat.pow_succ]; omega
theorem dif_lt {a b : Int} {n : Nat} (h1 : a.natAbs < 2 ^ n) (h2 : b.natAbs < 2 ^ n) : (a - b).natAbs < 2 ^ (n + 1) := by rw [Nat.pow_succ]; omega
theorem Sz.add {p q : Rat} {n m : Nat} (hp : Sz p n) (hq : Sz q m) : Sz (p + q) (n + m + 1) := by
  rw [add_eq]
  refine sz_divInt (Int.mul_ne_zero (den0 p) (den0 q)) (sum_lt ?_ ?_) ?_
  · rw [Int.natAbs_mul]; exact mul_lt2 hp.1 hq.2
  · rw [Int.natAbs_mul, Nat.add_comm]; exact mul_lt2 hq.1 hp.2
  · rw [Int.natAbs_mul]; exact Nat.lt_of_lt_of_le (mul_lt2 hp.2 hq.2) (Nat.pow_le_pow_right (by decide) (by omega))
theorem Sz.sub {p q : Rat} {n m : Nat} (hp : Sz p n) (hq : Sz q m) : Sz (p - q) (n + m + 1) := by
  rw [sub_eq]
  refine sz_divInt (Int.mul_ne_zero (den0 p) (den0 q)) (dif_lt ?_ ?_) ?_
  · rw [Int.natAbs_mul]; exact mul_lt2 hp.1 hq.2
  · rw [Int.natAbs_mul, Nat.add_comm]; exact mul_lt2 hq.1 hp.2
  · rw [Int.natAbs_mul]; exact Nat.lt_of_lt_of_le (mul_lt2 hp.2 hq.2) (Nat.pow_le_pow_right (by decide) (by omega))
theorem Sz.mul {p q : Rat} {n m : Nat} (hp : Sz p n) (hq : Sz q m) : Sz (p * q) (n + m) := by
  rw [mul_eq]
  refine sz_divInt (Int.mul_ne_zero (den0 p) (den0 q)) ?_ ?_
  · rw [Int.natAbs_mul]; exact mul_lt2 hp.1 hq.1
  · rw [Int.natAbs_mul]; exact mul_lt2 hp.2 hq.2
theorem num0 {q : Rat} (h : q ≠ 0) : q.num ≠ 0 := fun e => h (Rat.num_eq_zero.mp e)
theorem Sz.div {p q : Rat} {n m : Nat} (hp : Sz p n) (hq : Sz q m) (h0 : q ≠ 0) : Sz (p / q) (n + m) := by
  rw [div_eq]
  refine sz_divInt (Int.mul_ne_zero (den0 p) (num0 h0)) ?_ ?_
  · rw [Int.natAbs_mul]; exact mul_lt2 hp.1 hq.2
  · rw [Int.natAbs_mul]; exact mul_lt2 hp.2 hq.1
/-- what the four want of sizes -/
theorem lim_of {a n : Nat} (h : a < 2 ^ n) (hn : n ≤ 8999) : a < 2 ^ 8999 := Nat.lt_of_lt_of_le h (Nat.pow_le_pow_right (by decide) hn)
theorem added_spec {p q : Rat} {n m : Nat} (hp : Sz p n) (hq : Sz q m) (h : n + m ≤ 8999) : m_added [fr p, fr q] = .ok (fr (p + q), .dead) := by
  have e1 := mulD_sz (a := p.num) (b := q.den) hp.1 hq.2 (by omega)
  have e2 := mulD_sz (a := q.num) (b := p.den) hq.1 hp.2 (by omega)
  have e3 := mulD_sz (a := p.den) (b := q.den) (n := n) (m := m) hp.2 hq.2 (by omega)
  have e4 := fraction_spec (a := p.num * q.den + q.num * p.den) (Int.mul_ne_zero (den0 p) (den0 q)) (by rw [Int.natAbs_mul]; exact lim_of (mul_lt2 hp.2 hq.2) h)
  simp [m_added, b_added, e1, e2, e3, e4, add_eq]
theorem lessened_spec {p q : Rat} {n m : Nat} (hp : Sz p n) (hq : Sz q m) (h : n + m ≤ 8999) : m_lessened [fr p, fr q] = .ok (fr (p - q), .dead) := by
  have e1 := mulD_sz (a := p.num) (b := q.den) hp.1 hq.2 (by omega)
  have e2 := mulD_sz (a := q.num) (b := p.den) hq.1 hp.2 (by omega)
  have e3 := mulD_sz (a := p.den) (b := q.den) (n := n) (m := m) hp.2 hq.2 (by omega)
  have e4 := fraction_spec (a := p.num * q.den - q.num * p.den) (Int.mul_ne_zero (den0 p) (den0 q)) (by rw [Int.natAbs_mul]; exact lim_of (mul_lt2 hp.2 hq.2) h)
  simp [m_lessened, b_lessened, e1, e2, e3, e4, sub_eq]
theorem timed_spec {p q : Rat} {n m : Nat} (hp : Sz p n) (hq : Sz q m) (h : n + m ≤ 8999) : m_timed [fr p, fr q] = .ok (fr (p * q), .dead) := by
  have e1 := mulD_sz (a := p.num) (b := q.num) hp.1 hq.1 (by omega)
  have e3 := mulD_sz (a := p.den) (b := q.den) (n := n) (m := m) hp.2 hq.2 (by omega)
  have e4 := fraction_spec (a := p.num * q.num) (Int.mul_ne_zero (den0 p) (den0 q)) (by rw [Int.natAbs_mul]; exact lim_of (mul_lt2 hp.2 hq.2) h)
  simp [m_timed, b_timed, e1, e3, e4, mul_eq]
theorem divided_spec {p q : Rat} {n m : Nat} (hp : Sz p n) (hq : Sz q m) (h : n + m ≤ 8999) (h0 : q ≠ 0) : m_divided [fr p, fr q] = .ok (fr (p / q), .dead) := by
  have e1 := mulD_sz (a := p.num) (b := q.den) hp.1 hq.2 (by omega)
  have e3 := mulD_sz (a := p.den) (b := q.num) (n := n) (m := m) hp.2 hq.1 (by omega)
  have e4 := fraction_spec (a := p.num * q.den) (Int.mul_ne_zero (den0 p) (num0 h0)) (by rw [Int.natAbs_mul]; exact lim_of (mul_lt2 hp.2 hq.1) h)
  simp [m_divided, b_divided, e1, e3, e4, div_eq]
theorem is_less_spec {p q : Rat} {n m : Nat} (hp : Sz p n) (hq : Sz q m) (h : n + m ≤ 8999) : m_is_less [fr p, fr q] = .ok (.bl (decide (p < q)), .dead) := by
  have e1 := mulD_sz (a := p.num) (b := q.den) hp.1 hq.2 (by omega)
  have e2 := mulD_sz (a := q.num) (b := p.den) hq.1 hp.2 (by omega)
  simp [m_is_less, b_is_less, e1, e2, Rat.lt_iff]
theorem less_spec {p q : Rat} {n m : Nat} (hp : Sz p n) (hq : Sz q m) (h : n + m ≤ 8999) : m__law_less [fr p, fr q] = .ok (.bl (decide (p < q)), .dead) := by
  have e1 := mulD_sz (a := p.num) (b := q.den) hp.1 hq.2 (by omega)
  have e2 := mulD_sz (a := q.num) (b := p.den) hq.1 hp.2 (by omega)
  simp [m__law_less, b__law_less, e1, e2, Rat.lt_iff]
theorem sum_spec {p q : Rat} {n m : Nat} (hp : Sz p n) (hq : Sz q m) (h : n + m ≤ 8999) : m__law_sum [fr p, fr q] = .ok (fr (p + q), .dead) := by
  have e1 := mulD_sz (a := p.num) (b := q.den) hp.1 hq.2 (by omega)
  have e2 := mulD_sz (a := q.num) (b := p.den) hq.1 hp.2 (by omega)
  have e3 := mulD_sz (a := p.den) (b := q.den) (n := n) (m := m) hp.2 hq.2 (by omega)
  have e4 := lowest_spec (a := p.num * q.den + q.num * p.den) (Int.mul_pos (den_pos p) (den_pos q)) (by rw [Int.natAbs_mul]; exact lim_of (mul_lt2 hp.2 hq.2) h)
  simp [m__law_sum, b__law_sum, e1, e2, e3, e4, add_eq]
theorem times_spec {p q : Rat} {n m : Nat} (hp : Sz p n) (hq : Sz q m) (h : n + m ≤ 8999) : m__law_times [fr p, fr q] = .ok (fr (p * q), .dead) := by
  have e1 := mulD_sz (a := p.num) (b := q.num) hp.1 hq.1 (by omega)
  have e3 := mulD_sz (a := p.den) (b := q.den) (n := n) (m := m) hp.2 hq.2 (by omega)
  have e4 := lowest_spec (a := p.num * q.num) (Int.mul_pos (den_pos p) (den_pos q)) (by rw [Int.natAbs_mul]; exact lim_of (mul_lt2 hp.2 hq.2) h)
  simp [m__law_times, b__law_times, e1, e3, e4, mul_eq]

theorem ceiling_spec {a b : Int} (hb : 0 < b) (hs : b.natAbs < 2 ^ 8999) : m_ceiling [.tup [.int a, .int b]] = .ok (.int (-(-a / b)), .dead) := by
  have d := fDiv_of (a := -a) hb (Nat.lt_of_lt_of_le (log2_lt (k := 8999) hs (by decide)) (by decide))
  simp [m_ceiling, b_ceiling, d]
theorem fraction_draw {r : D} (hr : RoomOk r) : ∃ q r', m__law_fraction [r] = .ok (fr q, r') ∧ RoomOk r' ∧ Sz q 60 := by
  obtain ⟨x, r1, e1, hr1, x0, x1⟩ := take_spec hr (n := 4) (by decide) (by decide)
  obtain ⟨size, s1, s2, s3⟩ : ∃ size : Int, L2.atI [D.int 3, .int 40, .int 1000000, .int 1000000000000000] x = some (.int size) ∧ 2 ≤ size ∧ size ≤ 1000000000000000 := by
    rcases show x = 0 ∨ x = 1 ∨ x = 2 ∨ x = 3 by omega with rfl | rfl | rfl | rfl
    · exact ⟨3, rfl, by decide, by decide⟩
    · exact ⟨40, rfl, by decide, by decide⟩
    · exact ⟨1000000, rfl, by decide, by decide⟩
    · exact ⟨1000000000000000, rfl, by decide, by decide⟩
  have m1 : mulD (.int 2) (.int size) = some (.int (2 * size)) := mulD_small (by decide) (by omega)
  obtain ⟨t, r2, e2, hr2, t0, t1⟩ := take_spec hr1 (n := 2 * size + 1) (by omega) (by omega)
  obtain ⟨b, r3, e3, hr3, b0, b1⟩ := take_spec hr2 (n := size) (by omega) (by omega)
  have hb : 0 < 1 + b := by omega
  refine ⟨Rat.divInt (t - size) (1 + b), r3, ?_, hr3, sz_divInt (by omega) (by omega) (by omega)⟩
  simp [m__law_fraction, b__law_fraction, e1, s1, m1, e2, e3, hr.nd, hr1.nd, hr2.nd, hr3.nd, lowest_spec hb (lim60 (by omega))]
/-- a law that asks by each cell, one at least, of a room -/
theorem rooms_law {right : Fn} {ns : List Int} (h : ns.length ≤ 63) (hR : ∀ r, RoomOk r → ∃ d, right [r] = .ok (.bl true, d)) :
    ∃ d0, fnM 1 2 false (sSeq (sFor (iR1 (aC (eB gMax (aC (eC (.int 1)) (aC (eB gMin (aC (eBV gLen 0) (aC (eC (.int 63)) aN))) aN))) (aN))) (gN 1)
      (sIf (bNot (bOf (eCall right (aC (eCall m__law_room (aC (eV 0) (aC (eV 1) (aN)))) (aN))))) (sRet (eC (.bl false))) (sPass)))
      (sRet (eC (.bl true)))) [.frz (ns.map .int)] = .ok (.bl true, d0) := by
  obtain ⟨n, hn, en⟩ : ∃ n : Nat, n ≤ 63 ∧ max 1 (min (ns.length : Int) 63) = (n : Int) := ⟨max 1 ns.length, by omega, by omega⟩
  have h1 : -1000000 ≤ (n : Int) ∧ (n : Int) ≤ 1000000 := by omega
  obtain ⟨e, hl, a, rfl⟩ := forL_inv (f := gN 1) (body := sIf (bNot (bOf (eCall right (aC (eCall m__law_room (aC (eV 0) (aC (eV 1) (aN)))) (aN))))) (sRet (eC (.bl false))) (sPass)) (ds := rangeD 0 n)
      (fun env => ∃ a, env = [.frz (ns.map .int), a]) (fun d hd env he => by
    obtain ⟨k, hk, rfl⟩ := mem_rangeD hd
    obtain ⟨a, rfl⟩ := he
    obtain ⟨r, e1, hr⟩ := room_spec (ns := ns) (k := k) (by omega)
    obtain ⟨d, e2⟩ := hR r hr
    rw [Int.zero_add]
    exact ⟨_, [.frz (ns.map .int), .int k], rfl, .inl (by simp [e1, e2]), _, rfl⟩) ⟨.dead, rfl⟩
  refine ⟨.dead, ?_⟩
  have q : (sFor (iR1 (aC (eB gMax (aC (eC (.int 1)) (aC (eB gMin (aC (eBV gLen 0) (aC (eC (.int 63)) aN))) aN))) (aN))) (gN 1)
      (sIf (bNot (bOf (eCall right (aC (eCall m__law_room (aC (eV 0) (aC (eV 1) (aN)))) (aN))))) (sRet (eC (.bl false))) (sPass))) [.frz (ns.map .int), .dead] = .nx [.frz (ns.map .int), a] := by
    simp only [sFor_app, iR1_app, eB_app, aC_app, aN_app, eC_app, eBV_app, Res.bind_ok, List.getElem?_cons_zero, isDead_frz, gLen_frz, gMin_int, gMax_int, List.length_map, en, Bool.false_eq_true, if_false, if_pos h1]
    exact hl
  simp only [fnM_app, List.length_cons, List.length_nil, if_true, sSeq_app]
  rw [show [D.frz (ns.map D.int)] ++ List.replicate (2 - 1) D.dead = [D.frz (ns.map D.int), .dead] from rfl, q]
  rfl
end Fl
namespace Fl
open PySem
/-! ### loops by their number, rows of fractions -/
theorem forL_upto {f : Tgt} {body : Stm} (I : Nat → Env → Prop) : ∀ (ds : List D) {env : Env} (j : Nat), (∀ k (hk : k < ds.length) env, I (j + k) env → ∃ e1 e2, f ds[k] env = some e1 ∧ (body e1 = .nx e2 ∨ body e1 = .ct e2) ∧ I (j + k + 1) e2) → I j env →
    ∃ e, forL f body ds env = .nx e ∧ I (j + ds.length) e
  | [], env, j, _, h => ⟨env, rfl, h⟩
  | d :: ds, env, j, hs, h => by
    obtain ⟨e1, e2, h1, h2, h3⟩ := hs 0 (by simp) env h
    obtain ⟨e, h4, h5⟩ := forL_upto I ds (env := e2) (j + 1) (fun k hk env hI => by
      have := hs (k + 1) (by simpa using hk) env (by rw [show j + (k + 1) = j + 1 + k by omega]; exact hI)
      rw [show j + (k + 1) + 1 = j + 1 + k + 1 by omega] at this
      simpa using this) h3
    refine ⟨e, ?_, by rw [List.length_cons, show j + (ds.length + 1) = j + 1 + ds.length by omega]; exact h5⟩
    simp only [List.getElem_cons_zero] at h1
    rw [forL, h1]
    rcases h2 with h2 | h2 <;> (dsimp only; rw [h2]; exact h4)
/-- over a range from lo: I by the number itself -/
theorem forL_range {f : Tgt} {body : Stm} (I : Nat → Env → Prop) {env : Env} (lo n : Nat) (hs : ∀ k env, lo ≤ k → k < lo + n → I k env → ∃ e1 e2, f (.int k) env = some e1 ∧ (body e1 = .nx e2 ∨ body e1 = .ct e2) ∧ I (k + 1) e2) (h : I lo env) :
    ∃ e, forL f body (rangeD lo n) env = .nx e ∧ I (lo + n) e := by
  have := forL_upto (f := f) (body := body) I (rangeD lo n) (env := env) lo (fun k hk env hI => by
    rw [rangeD_len] at hk
    have e : (rangeD lo n)[k]'(by rw [rangeD_len]; exact hk) = .int ((lo + k : Nat)) := by simp [rangeD]
    rw [e]
    exact hs (lo + k) env (by omega) (by omega) hI) h
  rwa [rangeD_len] at this
theorem forL_map {α : Type} {f : Tgt} {body : Stm} (I : Nat → Env → Prop) {env : Env} (l : List α) (h : α → D) (hs : ∀ k (hk : k < l.length) env, I k env → ∃ e1 e2, f (h l[k]) env = some e1 ∧ (body e1 = .nx e2 ∨ body e1 = .ct e2) ∧ I (k + 1) e2) (h0 : I 0 env) :
    ∃ e, forL f body (l.map h) env = .nx e ∧ I l.length e := by
  have := forL_upto (f := f) (body := body) I (l.map h) (env := env) 0 (fun k hk env hI => by
    rw [List.length_map] at hk
    rw [List.getElem_map]
    rw [Nat.zero_add] at hI ⊢
    exact hs k hk env hI) h0
  simpa using this
theorem atI_k {α : Type} {xs : List α} (k : Nat) : L2.atI xs (k : Int) = xs[k]? := atI_of (Int.natCast_nonneg k)
theorem fr0 : D.tup [.int 0, .int 1] = fr 0 := rfl
theorem fEq_fr (p q : Rat) : fEq (fr p) (fr q) = some (.bl (decide (p = q))) := by
  unfold fr
  rw [fEq_pair]
  have : (p.num == q.num && ((p.den : Int) == (q.den : Int) && true)) = decide (p = q) := by
    by_cases h : p = q
    · subst h; simp
    · simp only [h, decide_false, Bool.and_true, Bool.and_eq_false_iff, beq_eq_false_iff_ne]
      by_cases h1 : p.num = q.num
      · exact .inr fun h2 => h (Rat.ext h1 (by omega))
      · exact .inl h1
  rw [this]
theorem fNe_fr (p q : Rat) : fNe (fr p) (fr q) = some (.bl (!decide (p = q))) := by
  have := fEq_fr p q
  unfold fEq at this
  unfold fNe
  cases h : eqD (fr p) (fr q) with
  | none => rw [h] at this; cases this
  | some b => rw [h] at this; simp at this ⊢; exact this
theorem shL_frs {α : Type} (l : List α) (g : α → Rat) : shL (l.map fun x => fr (g x)) = l.map fun x => fr (g x) := by
  induction l with
  | nil => rfl
  | cons x l ih => simp [ih]
end Fl
namespace Fl
@[simp] theorem isFr_fr (q : Rat) : isFr (fr q) = true := by
  have h := q.reduced
  have h2 := q.den_nz
  unfold Nat.Coprime at h
  simp [isFr, fr, Int.gcd, h]
  omega
end Fl

/-! Fl: rows of fractions by place, sides, deeds, nets; what the helpers of the laws draw of them. -/
namespace Fl
open PySem
/-! ### a fraction for each of m places -/
def frR (m : Nat) (f : Nat → Rat) : List D := (List.range m).map fun j => fr (f j)
@[simp] theorem frR_len (m : Nat) (f : Nat → Rat) : (frR m f).length = m := by simp [frR]
@[simp] theorem shL_frR (m : Nat) (f : Nat → Rat) : shL (frR m f) = frR m f := shL_frs _ _
@[simp] theorem ownL_frR (m : Nat) (f : Nat → Rat) : ownL (frR m f) = false := by rw [← shL_frR, ownL_shL]
theorem frR_get {m : Nat} {f : Nat → Rat} {j : Nat} (h : j < m) : (frR m f)[j]? = some (fr (f j)) := by simp [frR, h]
theorem frR_ix {o : Bool} {m : Nat} {f : Nat → Rat} {j : Nat} (h : j < m) : ixD (.lst o (frR m f)) (j : Int) = some (fr (f j)) := by
  show L2.atI _ _ = _
  rw [atI_k, frR_get h]
theorem frR_at {m : Nat} {f : Nat → Rat} {j : Nat} (h : j < m) : L2.atI (frR m f) (j : Int) = some (fr (f j)) := frR_ix (o := true) h
def updF (f : Nat → Rat) (j : Nat) (q : Rat) : Nat → Rat := fun i => if i = j then q else f i
theorem frR_set {m : Nat} {f : Nat → Rat} {j : Nat} {q : Rat} : (frR m f).set j (fr q) = frR m (updF f j q) := by
  apply List.ext_getElem?
  intro i
  by_cases h : j = i
  · subst h
    by_cases hj : j < m
    · rw [List.getElem?_set_self (by simpa using hj), frR_get hj]; simp [updF]
    · rw [List.getElem?_eq_none (by simpa using hj), List.getElem?_eq_none (by simpa using hj)]
  · rw [List.getElem?_set_ne h]
    by_cases hi : i < m
    · rw [frR_get hi, frR_get hi]; simp [updF, Ne.symm h]
    · rw [List.getElem?_eq_none (by simpa using hi), List.getElem?_eq_none (by simpa using hi)]
theorem frR_ext {m : Nat} {f g : Nat → Rat} (h : ∀ j, j < m → f j = g j) : frR m f = frR m g := by
  unfold frR
  apply List.map_congr_left
  intro j hj
  rw [h j (by simpa using hj)]
theorem ixN_k {n k : Nat} (h : k < n) : L2.ixN n (k : Int) = some k := by
  unfold L2.ixN
  rw [if_pos (by omega), if_pos (by omega)]
  simp
theorem mulD_rep {o : Bool} {d : D} {m : Nat} (hm : m ≤ 1000) (h : own d = false) : mulD (.lst o [d]) (.int (m : Int)) = some (.lst true (List.replicate m d)) := by
  have h1 : (m : Int) ≤ 1000000 := by omega
  have h2 : -1000000 ≤ (m : Int) := by omega
  have h3 : [d].length * (m : Int).toNat ≤ 100000 := by simp; omega
  have h4 : ownL [d] = false := by simp [h]
  simp only [mulD]
  rw [if_pos ⟨h1, h2, h3, h4⟩]
  congr 2
  simp
theorem frR_zero (m : Nat) : List.replicate m (fr 0) = frR m fun _ => 0 := by
  apply List.ext_getElem?
  intro i
  by_cases h : i < m
  · rw [frR_get h]; simp [h]
  · rw [List.getElem?_eq_none (by simpa using h), List.getElem?_eq_none (by simpa using h)]
theorem zip_frR {α : Type} {m : Nat} {f g : Nat → Rat} : zipD (frR m f) (frR m g) = (List.range m).map fun j => .tup [fr (f j), fr (g j)] := by
  apply List.ext_getElem?
  intro i
  unfold zipD
  rw [List.getElem?_zipWith]
  by_cases h : i < m
  · rw [frR_get h, frR_get h]; simp [h]
  · rw [List.getElem?_eq_none (by simpa using h), List.getElem?_eq_none (by simpa using h)]; simp [h]

theorem mulD_zero {o : Bool} {m : Nat} (hm : m ≤ 1000) : mulD (.lst o [fr 0]) (.int (m : Int)) = some (.lst true (frR m fun _ => 0)) := by rw [mulD_rep hm (own_fr 0), frR_zero]

/-! ### sides, deeds -/
abbrev Side := List (Nat × Rat)
def row (p : Nat × Rat) : D := .tup [.int (p.1 : Int), fr p.2]
def sideL (s : Side) : List D := s.map row
@[simp] theorem sh_row (p : Nat × Rat) : sh (row p) = row p := by simp [row]
@[simp] theorem shL_sideL (s : Side) : shL (sideL s) = sideL s := by
  unfold sideL
  induction s with
  | nil => rfl
  | cons a l ih => simp [ih]
@[simp] theorem ownL_sideL (s : Side) : ownL (sideL s) = false := by rw [← shL_sideL, ownL_shL]
@[simp] theorem sideL_len (s : Side) : (sideL s).length = s.length := by simp [sideL]
def deedD (o : Bool) (d : Side × Side) : D := .tup [.lst o (sideL d.1), .lst o (sideL d.2)]
@[simp] theorem sh_deedD (o : Bool) (d : Side × Side) : sh (deedD o d) = deedD false d := by simp [deedD]
def deedsL (o : Bool) (ds : List (Side × Side)) : List D := ds.map (deedD o)
@[simp] theorem shL_deedsL (o : Bool) (ds : List (Side × Side)) : shL (deedsL o ds) = deedsL false ds := by
  unfold deedsL
  induction ds with
  | nil => rfl
  | cons a l ih => simp [ih]
@[simp] theorem deedsL_len (o : Bool) (ds : List (Side × Side)) : (deedsL o ds).length = ds.length := by simp [deedsL]
@[simp] theorem ownL_deedsL (ds : List (Side × Side)) : ownL (deedsL false ds) = false := by rw [← shL_deedsL true, ownL_shL]
def netD (o : Bool) (m : Nat) (ds : List (Side × Side)) : D := .tup [.int (m : Int), .lst o (deedsL o ds)]
@[simp] theorem sh_netD (o : Bool) (m : Nat) (ds : List (Side × Side)) : sh (netD o m ds) = netD false m ds := by simp [netD]
@[simp] theorem own_netD (m : Nat) (ds : List (Side × Side)) : own (netD false m ds) = false := by simp [netD]
@[simp] theorem own_netO (m : Nat) (ds : List (Side × Side)) : own (netD true m ds) = true := by simp [netD]
@[simp] theorem isDead_netD (o : Bool) (m : Nat) (ds : List (Side × Side)) : isDead (netD o m ds) = false := by simp [netD]
@[simp] theorem ixD_net0 (o : Bool) (m : Nat) (ds : List (Side × Side)) : ixD (netD o m ds) 0 = some (.int m) := by simp [netD]
@[simp] theorem ixD_net1 (o : Bool) (m : Nat) (ds : List (Side × Side)) : ixD (netD o m ds) 1 = some (.lst o (deedsL o ds)) := by simp [netD]
@[simp] theorem ixD_deed0 (o : Bool) (d : Side × Side) : ixD (deedD o d) 0 = some (.lst o (sideL d.1)) := by simp [deedD]
@[simp] theorem ixD_deed1 (o : Bool) (d : Side × Side) : ixD (deedD o d) 1 = some (.lst o (sideL d.2)) := by simp [deedD]
@[simp] theorem own_deed (d : Side × Side) : own (deedD false d) = false := by simp [deedD]
@[simp] theorem isDead_deed (o : Bool) (d : Side × Side) : isDead (deedD o d) = false := by simp [deedD]
theorem deeds_ix {o o2 : Bool} {ds : List (Side × Side)} {k : Nat} (h : k < ds.length) : ixD (.lst o2 (deedsL o ds)) (k : Int) = some (deedD o ds[k]) := by
  show L2.atI _ _ = _
  rw [atI_k]
  simp [deedsL, h]

theorem deeds_at {o : Bool} {ds : List (Side × Side)} {k : Nat} (h : k < ds.length) : L2.atI (deedsL o ds) (k : Int) = some (deedD o ds[k]) := deeds_ix (o2 := true) h
/-- what a side holds of a place -/
def amt : Side → Nat → Rat
  | [], _ => 0
  | p :: s, j => (if p.1 = j then p.2 else 0) + amt s j
def chg (d : Side × Side) : Nat → Rat := fun j => amt d.2 j - amt d.1 j
structure SideOk (m : Nat) (s : Side) : Prop where
  up : s.Pairwise fun a b => a.1 < b.1
  lt : ∀ p ∈ s, p.1 < m
  sz : ∀ p ∈ s, Sz p.2 40
  pos : ∀ p ∈ s, 0 < p.2
theorem SideOk.tail {m : Nat} {p : Nat × Rat} {s : Side} (h : SideOk m (p :: s)) : SideOk m s :=
  ⟨(List.pairwise_cons.mp h.up).2, fun q hq => h.lt q (List.mem_cons_of_mem _ hq), fun q hq => h.sz q (List.mem_cons_of_mem _ hq), fun q hq => h.pos q (List.mem_cons_of_mem _ hq)⟩
theorem amt_none {s : Side} {j : Nat} (h : ∀ p ∈ s, p.1 ≠ j) : amt s j = 0 := by
  induction s with
  | nil => rfl
  | cons a l ih =>
    rw [amt, if_neg (h a (by simp)), ih fun p hp => h p (by simp [hp])]
    exact Rat.add_zero 0
theorem SideOk.at {m : Nat} {p : Nat × Rat} {s : Side} (h : SideOk m (p :: s)) : amt s p.1 = 0 :=
  amt_none fun q hq => by have := (List.pairwise_cons.mp h.up).1 q hq; omega
theorem zero_sz : Sz 0 1 := ⟨by decide, by decide⟩
theorem SideOk.amt_sz {m : Nat} {s : Side} (h : SideOk m s) (j : Nat) : Sz (amt s j) 40 := by
  induction s with
  | nil => exact zero_sz.mono (by decide)
  | cons a l ih =>
    by_cases e : a.1 = j
    · subst e
      rw [amt, if_pos rfl, h.at]
      have := h.sz a (by simp)
      rwa [Rat.add_zero]
    · rw [amt, if_neg e, Rat.zero_add]
      exact ih h.tail
theorem SideOk.amt_nn {m : Nat} {s : Side} (h : SideOk m s) (j : Nat) : 0 ≤ amt s j := by
  induction s with
  | nil => exact Rat.le_refl
  | cons a l ih =>
    have := ih h.tail
    rw [amt]
    split
    · have := h.pos a (by simp); grind
    · grind
structure DeedOk (m : Nat) (d : Side × Side) : Prop where
  l : SideOk m d.1
  r : SideOk m d.2
theorem DeedOk.chg_sz {m : Nat} {d : Side × Side} (h : DeedOk m d) (j : Nat) : Sz (chg d j) 81 := (h.r.amt_sz j).sub (h.l.amt_sz j)

@[simp] theorem clean_fr (q : Rat) : clean (fr q) = true := rfl
@[simp] theorem cleanL_frR (m : Nat) (f : Nat → Rat) : cleanL (frR m f) = true := cleanL_map (fun _ => rfl) _
@[simp] theorem clean_row (p : Nat × Rat) : clean (row p) = true := rfl
@[simp] theorem cleanL_sideL (s : Side) : cleanL (sideL s) = true := cleanL_map (fun _ => rfl) _
@[simp] theorem clean_deed (o : Bool) (d : Side × Side) : clean (deedD o d) = o := by simp [deedD]
@[simp] theorem cleanL_deeds (ds : List (Side × Side)) : cleanL (deedsL true ds) = true := cleanL_map (fun _ => by simp) _
@[simp] theorem clean_net (m : Nat) (ds : List (Side × Side)) : clean (netD true m ds) = true := by simp [netD]
theorem ixN0 {n : Nat} (h : 0 < n) : L2.ixN n 0 = some 0 := ixN_k (k := 0) h
/-! ### draws -/
theorem pos_divInt {a b : Int} (ha : 0 < a) (hb : 0 < b) : 0 < Rat.divInt a b := by
  have h1 := Rat.divInt_nonneg (Int.le_of_lt ha) (Int.le_of_lt hb)
  refine Rat.lt_iff_le_and_ne.mpr ⟨h1, fun e => ?_⟩
  rw [Rat.divInt_eq_div] at e
  have hb' : (b : Rat) ≠ 0 := by exact_mod_cast (show b ≠ 0 by omega)
  have ha' : (a : Rat) ≠ 0 := by exact_mod_cast (show a ≠ 0 by omega)
  have : (a : Rat) = 0 := by grind
  exact ha' this
theorem amount_draw {r : D} (hr : RoomOk r) : ∃ q r', m__law_amount [r] = .ok (fr q, r') ∧ RoomOk r' ∧ Sz q 40 ∧ 0 < q := by
  obtain ⟨x, r1, e1, hr1, x0, x1⟩ := take_spec hr (n := 8) (by decide) (by decide)
  have p12 : fPow (.int 10) (.int 12) = some (.int 1000000000000) := rfl
  have p6 : fPow (.int 10) (.int 6) = some (.int 1000000) := rfl
  by_cases h7 : x = 7
  · subst h7
    obtain ⟨a, r2, e2, hr2, a0, a1⟩ := take_spec hr1 (n := 1000000000000) (by decide) (by decide)
    obtain ⟨k, r3, e3, hr3, k0, k1⟩ := take_spec hr2 (n := 4) (by decide) (by decide)
    obtain ⟨b, s1, s2, s3⟩ : ∃ b : Int, L2.atI [D.int 7, .int 11, .int 1000, .int 1000000] k = some (.int b) ∧ 0 < b ∧ b ≤ 1000000 := by
      rcases show k = 0 ∨ k = 1 ∨ k = 2 ∨ k = 3 by omega with rfl | rfl | rfl | rfl
      · exact ⟨7, rfl, by decide, by decide⟩
      · exact ⟨11, rfl, by decide, by decide⟩
      · exact ⟨1000, rfl, by decide, by decide⟩
      · exact ⟨1000000, rfl, by decide, by decide⟩
    refine ⟨Rat.divInt (1 + a) b, r3, ?_, hr3, sz_divInt (by omega) (by omega) (by omega), pos_divInt (by omega) s2⟩
    simp [m__law_amount, b__law_amount, e1, e2, e3, p12, p6, s1, hr.nd, hr1.nd, hr2.nd, hr3.nd, lowest_spec s2 (lim60 (by omega))]
  · have n7 : (x == 7) = false := by simpa using h7
    obtain ⟨a, r2, e2, hr2, a0, a1⟩ := take_spec hr1 (n := 9) (by decide) (by decide)
    obtain ⟨k, r3, e3, hr3, k0, k1⟩ := take_spec hr2 (n := 4) (by decide) (by decide)
    obtain ⟨b, s1, s2, s3⟩ : ∃ b : Int, L2.atI [D.int 1, .int 1, .int 2, .int 3] k = some (.int b) ∧ 0 < b ∧ b ≤ 1000000 := by
      rcases show k = 0 ∨ k = 1 ∨ k = 2 ∨ k = 3 by omega with rfl | rfl | rfl | rfl
      · exact ⟨1, rfl, by decide, by decide⟩
      · exact ⟨1, rfl, by decide, by decide⟩
      · exact ⟨2, rfl, by decide, by decide⟩
      · exact ⟨3, rfl, by decide, by decide⟩
    refine ⟨Rat.divInt (1 + a) b, r3, ?_, hr3, sz_divInt (by omega) (by omega) (by omega), pos_divInt (by omega) s2⟩
    simp [m__law_amount, b__law_amount, e1, n7, e2, e3, s1, hr.nd, hr1.nd, hr2.nd, hr3.nd, lowest_spec s2 (lim60 (by omega))]
/-- the dict of a side that is drawn: its places in the order of their coming -/
def dkeys (ps : List Nat) : List L2.Key := ps.map fun (p : Nat) => (Sum.inl (p : Int) : L2.Key)
def dvals (ps : List Nat) (f : Nat → Rat) : List D := ps.map fun p => fr (f p)
theorem mem_dkeys {ps : List Nat} {p : Nat} : (Sum.inl (p : Int) : L2.Key) ∈ dkeys ps ↔ p ∈ ps := by
  unfold dkeys
  rw [List.mem_map]
  constructor
  · rintro ⟨a, h1, h2⟩
    have : (a : Int) = p := Sum.inl.inj h2
    have : a = p := by omega
    subst this; exact h1
  · intro h; exact ⟨p, h, rfl⟩
theorem valK_d {ps : List Nat} {f : Nat → Rat} {p : Nat} (h : p ∈ ps) : valK (dkeys ps) (dvals ps f) (Sum.inl (p : Int) : L2.Key) = some (fr (f p)) := by
  induction ps with
  | nil => cases h
  | cons a l ih =>
    simp only [dkeys, dvals, List.map_cons, valK]
    by_cases e : a = p
    · subst e; rw [if_pos rfl]
    · rw [if_neg (fun (z : (Sum.inl (a : Int) : L2.Key) = Sum.inl (p : Int)) => e (by have : (a : Int) = p := Sum.inl.inj z; omega))]
      exact ih (by rcases List.mem_cons.mp h with h | h; exact absurd h.symm e; exact h)
theorem repK_d {ps : List Nat} {f : Nat → Rat} {p : Nat} {q : Rat} : repK (dkeys ps) (dvals ps f) (Sum.inl (p : Int) : L2.Key) (fr q) = dvals ps (updF f p q) := by
  induction ps with
  | nil => rfl
  | cons a l ih =>
    simp only [dkeys, dvals, List.map_cons, repK] at ih ⊢
    rw [ih]
    congr 1
    by_cases e : a = p
    · subst e; rw [if_pos rfl]; simp [updF]
    · rw [if_neg (fun (z : (Sum.inl (a : Int) : L2.Key) = Sum.inl (p : Int)) => e (by have : (a : Int) = p := Sum.inl.inj z; omega))]; simp [updF, e]
theorem putD_d {ps : List Nat} {f : Nat → Rat} {p : Nat} {q : Rat} : putD (dkeys ps) (dvals ps f) (Sum.inl (p : Int) : L2.Key) (fr q) = (dkeys (if p ∈ ps then ps else ps ++ [p]), dvals (if p ∈ ps then ps else ps ++ [p]) (updF f p q)) := by
  unfold putD
  by_cases h : p ∈ ps
  · rw [if_pos (mem_dkeys.mpr h), if_pos h, repK_d]
  · rw [if_neg (fun z => h (mem_dkeys.mp z)), if_neg h]
    unfold dkeys dvals
    simp only [List.map_append, List.map_cons, List.map_nil, Prod.mk.injEq, true_and]
    congr 1
    · apply List.map_congr_left
      intro a ha
      have : a ≠ p := fun e => h (e ▸ ha)
      simp [updF, this]
    · simp [updF]
theorem toInts_nat (ps : List Nat) : toInts ((dkeys ps).map keyD) = some (ps.map fun (p : Nat) => (p : Int)) := by
  unfold dkeys
  induction ps with
  | nil => rfl
  | cons a l ih => simp only [List.map_cons, keyD, toInts, ih]; rfl
theorem mergeSort_nat (ps : List Nat) : (ps.map fun (p : Nat) => (p : Int)).mergeSort = (ps.mergeSort).map fun (p : Nat) => (p : Int) := by
  refine sort_uniq ((List.mergeSort_perm _ _).trans ((List.mergeSort_perm ps _).map _).symm) ((List.pairwise_mergeSort (le := fun a b : Int => decide (a ≤ b)) (by intro a b c; simp; omega) (by intro a b; simp; omega) _).imp (by simp)) ?_
  rw [List.pairwise_map]
  exact (List.pairwise_mergeSort (le := fun a b : Nat => decide (a ≤ b)) (by intro a b c; simp; omega) (by intro a b; simp; omega) ps).imp (by simp)
theorem gSort_d (ps : List Nat) {o : Bool} : gSort (.lst o ((dkeys ps).map keyD)) = some (.lst true ((ps.mergeSort).map fun p => .int (p : Nat))) := by
  simp only [gSort, lsD_lst, Option.bind_some, toInts_nat, Option.map_some, mergeSort_nat, List.map_map]
  rfl
theorem sort_up {ps : List Nat} (h : ps.Nodup) : (ps.mergeSort).Pairwise (· < ·) := by
  have h1 : (ps.mergeSort).Pairwise (· ≤ ·) := (List.pairwise_mergeSort (le := fun a b : Nat => decide (a ≤ b)) (by intro a b c; simp; omega) (by intro a b; simp; omega) ps).imp (by simp)
  have h2 : (ps.mergeSort).Nodup := (List.mergeSort_perm ps _).nodup_iff.mpr h
  exact (h1.and h2).imp fun ⟨a, b⟩ => by omega
theorem shL_map {α : Type} {g : α → D} (h : ∀ x, sh (g x) = g x) (l : List α) : shL (l.map g) = l.map g := by
  induction l with
  | nil => rfl
  | cons a l ih => simp [h a, ih]
@[simp] theorem shL_keys (ks : List L2.Key) : shL (ks.map keyD) = ks.map keyD := shL_map (fun k => by cases k <;> rfl) _
@[simp] theorem shL_ints {α : Type} (l : List α) (g : α → Int) : shL (l.map fun x => .int (g x)) = l.map fun x => .int (g x) := shL_map (fun _ => rfl) _
@[simp] theorem shL_ints' (l : List Int) : shL (l.map D.int) = l.map D.int := shL_map (fun _ => rfl) _
@[simp] theorem shL_rows {α : Type} (l : List α) (g : α → Nat × Rat) : shL (l.map fun x => row (g x)) = l.map fun x => row (g x) := shL_map (fun _ => by simp) _
theorem side_draw {r : D} (hr : RoomOk r) {m most : Nat} (hm : 0 < m) (hm2 : m ≤ 1000) (hs : most ≤ 1000) : ∃ s r', m__law_side [r, .int m, .int most] = .ok (.lst true (sideL s), r') ∧ RoomOk r' ∧ SideOk m s ∧ s.length ≤ most := by
  obtain ⟨n, r1, e1, hr1, n0, n1⟩ := take_spec hr (n := (most : Int) + 1) (by omega) (by omega)
  obtain ⟨n, rfl⟩ : ∃ k : Nat, n = (k : Int) := ⟨n.toNat, by omega⟩
  obtain ⟨e, hl, ps, f, r2, a, b, rfl, hr2, nd, hps, hlen, hf⟩ := forL_range (f := gN 4) (body := (sSeq (sAsg (eCallX m__law_take 0 (aC (eV 1) (aN))) (gN 5))
  (sDPutV 3 (eCallX m__law_amount 0 (aN)) (eV 5)))) (fun k env => ∃ (ps : List Nat) (f : Nat → Rat) (r : D) (a b : D), env = [r, .int m, .int most, .dct true (dkeys ps) (dvals ps f), a, b] ∧ RoomOk r ∧ ps.Nodup ∧ (∀ p ∈ ps, p < m) ∧ ps.length ≤ k ∧ ∀ p ∈ ps, Sz (f p) 40 ∧ 0 < f p)
    (env := [r1, .int m, .int most, .dct true [] [], .dead, .dead]) 0 n (fun k env _ hk ⟨ps, f, r, a, b, he, hr, nd, hps, hlen, hf⟩ => by
      subst he
      obtain ⟨p, r2, e2, hr2, p0, p1⟩ := take_spec hr (n := (m : Int)) (by omega) (by omega)
      obtain ⟨p, rfl⟩ : ∃ k : Nat, p = (k : Int) := ⟨p.toNat, by omega⟩
      obtain ⟨q, r3, e3, hr3, q1, q2⟩ := amount_draw hr2
      have hz : (dkeys ps).length < 100000 := by simp [dkeys]; omega
      refine ⟨_, _, rfl, .inl ?_, if p ∈ ps then ps else ps ++ [p], updF f p q, r3, .int k, .int p, rfl, hr3, ?_, ?_, ?_, ?_⟩
      · simp [e2, e3, hr.nd, hr2.nd, hr3.nd, hz, putD_d]
      · split
        · exact nd
        · rename_i h
          rw [List.nodup_append]
          exact ⟨nd, by simp, fun x hx y hy => by simp at hy; subst hy; exact fun e => h (e ▸ hx)⟩
      · intro x hx
        split at hx
        · exact hps x hx
        · rcases List.mem_append.mp hx with h | h
          · exact hps x h
          · simp at h; omega
      · split
        · omega
        · simp; omega
      · intro x hx
        unfold updF
        by_cases e : x = p
        · rw [if_pos e]; exact ⟨q1, q2⟩
        · rw [if_neg e]
          refine hf x ?_
          split at hx
          · exact hx
          · rcases List.mem_append.mp hx with h | h
            · exact h
            · simp at h; exact absurd h e) ⟨[], fun _ => 0, r1, .dead, .dead, rfl, hr1, by simp, by simp, by simp, by simp⟩
  have hmem : ∀ x ∈ ps.mergeSort, x ∈ ps := fun x hx => (List.mergeSort_perm ps _).mem_iff.mp hx
  have lc : lcL (gN 5) bYes (eTup (aC (eV 5) (aC (eDGetV 3 (eV 5)) (aN)))) [5] ((ps.mergeSort).map fun p => .int (p : Nat)) [r2, .int m, .int most, .dct true (dkeys ps) (dvals ps f), a, .dead] =
      some ((ps.mergeSort).map fun p => row (p, f p), [r2, .int m, .int most, .dct true (dkeys ps) (dvals ps f), a, .dead]) :=
    lcL_map _ _ _ fun x hx => ⟨_, _, _, rfl, rfl, by simp [valK_d (hmem x hx)]; exact ⟨rfl, rfl⟩, rfl⟩
  refine ⟨(ps.mergeSort).map fun p => (p, f p), r2, ?_, hr2, ⟨?_, ?_, ?_, ?_⟩, ?_⟩
  · have hn : (n : Int) ≤ 1000000 := by omega
    have hn2 : -1000000 ≤ (n : Int) := by omega
    have hlen2 : ps.length ≤ 100000 := by omega
    have l0 : ((0 : Nat) : Int) = 0 := rfl
    rw [l0] at hl
    have hsL : sideL ((ps.mergeSort).map fun p => (p, f p)) = (ps.mergeSort).map fun p => row (p, f p) := by simp [sideL]
    have hshk : shL (dvals ps f) = dvals ps f := shL_frs _ _
    by_cases hb : own b = true ∨ isDead b = true <;> simp [m__law_side, b__law_side, e1, hr.nd, hr1.nd, hn, hn2, hl, gSort_d, hlen2, lc, hsL, hshk, hr2.nd, hb]
  · rw [List.pairwise_map]; exact sort_up nd
  · intro p hp
    obtain ⟨x, hx, rfl⟩ := List.mem_map.mp hp
    exact hps x (hmem x hx)
  · intro p hp
    obtain ⟨x, hx, rfl⟩ := List.mem_map.mp hp
    exact (hf x (hmem x hx)).1
  · intro p hp
    obtain ⟨x, hx, rfl⟩ := List.mem_map.mp hp
    exact (hf x (hmem x hx)).2
  · rw [List.length_map, (List.mergeSort_perm ps _).length_eq]; omega
theorem deed_draw {r : D} (hr : RoomOk r) {m most : Nat} (hm : 0 < m) (hm2 : m ≤ 1000) (hs : most ≤ 1000) : ∃ d r', m__law_deed [r, .int m, .int most] = .ok (deedD true d, r') ∧ RoomOk r' ∧ DeedOk m d ∧ d.1.length ≤ most ∧ d.2.length ≤ most := by
  obtain ⟨s1, r1, e1, hr1, o1, l1⟩ := side_draw hr hm hm2 hs
  obtain ⟨s2, r2, e2, hr2, o2, l2⟩ := side_draw hr1 hm hm2 hs
  refine ⟨(s1, s2), r2, ?_, hr2, ⟨o1, o2⟩, l1, l2⟩
  simp [m__law_deed, b__law_deed, e1, e2, hr.nd, hr1.nd, hr2.nd, deedD]
end Fl

/-! Fl: equality of plain data; changes of deeds. -/
namespace Fl
open PySem
/-! ### plain data compared -/
mutual
def pl : D → Nat → Bool
  | .non, _ => true
  | .bl _, _ => true
  | .int _, _ => true
  | .str x, _ => PyData.canLay0 (.str x)
  | .tup ds, n + 1 => plL ds n
  | .lst _ ds, n + 1 => plL ds n
  | .frz ds, n + 1 => plL ds n
  | _, _ => false
def plL : List D → Nat → Bool
  | [], _ => true
  | d :: ds, n => pl d n && plL ds n
end
mutual
theorem pl_py : ∀ (d : D) (n : Nat), pl d n = true → ∃ p, toPy d = some p ∧ p.canLay0 = true ∧ p.depth ≤ n
  | .non, n, _ => ⟨_, rfl, rfl, Nat.zero_le _⟩
  | .bl _, n, _ => ⟨_, rfl, rfl, Nat.zero_le _⟩
  | .int _, n, _ => ⟨_, rfl, rfl, Nat.zero_le _⟩
  | .str x, n, h => ⟨_, rfl, h, Nat.zero_le _⟩
  | .tup ds, 0, h => by simp [pl] at h
  | .tup ds, n + 1, h => by
    obtain ⟨ps, h1, h2, h3⟩ := plL_py ds n (by simpa [pl] using h)
    exact ⟨.tuple ps, by simp [toPy, h1], by simpa [PyData.canLay0] using h2, by simp only [PyData.depth]; omega⟩
  | .lst o ds, 0, h => by simp [pl] at h
  | .lst o ds, n + 1, h => by
    obtain ⟨ps, h1, h2, h3⟩ := plL_py ds n (by simpa [pl] using h)
    exact ⟨.list ps, by simp [toPy, h1], by simpa [PyData.canLay0] using h2, by simp only [PyData.depth]; omega⟩
  | .frz ds, 0, h => by simp [pl] at h
  | .frz ds, n + 1, h => by
    obtain ⟨ps, h1, h2, h3⟩ := plL_py ds n (by simpa [pl] using h)
    exact ⟨.list ps, by simp [toPy, h1], by simpa [PyData.canLay0] using h2, by simp only [PyData.depth]; omega⟩
  | .dct _ _ _, n, h => by cases n <;> simp [pl] at h
  | .exo _ _, n, h => by cases n <;> simp [pl] at h
  | .dead, n, h => by cases n <;> simp [pl] at h
theorem plL_py : ∀ (ds : List D) (n : Nat), plL ds n = true → ∃ ps, toPyL ds = some ps ∧ PyData.canLayAll0 ps = true ∧ PyData.depthAll ps ≤ n
  | [], n, _ => ⟨[], rfl, rfl, Nat.zero_le _⟩
  | d :: ds, n, h => by
    simp only [plL, Bool.and_eq_true] at h
    obtain ⟨p, h1, h2, h3⟩ := pl_py d n h.1
    obtain ⟨ps, h4, h5, h6⟩ := plL_py ds n h.2
    exact ⟨p :: ps, by simp [toPyL, h1, h4], by simp [PyData.canLayAll0, h2, h5], by simp only [PyData.depthAll]; omega⟩
end
theorem eqD_of {a b : D} {p q : PyData} (h1 : toPy a = some p) (h2 : toPy b = some q) (c1 : p.canLay0 = true) (c2 : q.canLay0 = true) (d1 : p.depth ≤ 64) (d2 : q.depth ≤ 64) : eqD a b = some (PyData.eqv p q) := by
  have e : eqP a b = some (PyData.eqv p q) := by simp [eqP, h1, h2, SeqAt.shaped, c1, c2, d1, d2]
  unfold eqD
  cases h : strEq a b with
  | none => exact e
  | some k =>
    obtain ⟨x, y, rfl, rfl, rfl⟩ := strEq_inv h
    cases h1; cases h2
    simp only [PyData.eqv]
    by_cases e : x = y <;> simp [e]
/-- the same data are equal -/
theorem fEq_same {a b : D} {n : Nat} (h : pl a n = true) (hn : n ≤ 64) (e : toPy a = toPy b) : fEq a b = some (.bl true) ∧ fNe a b = some (.bl false) := by
  obtain ⟨p, h1, h2, h3⟩ := pl_py a n h
  have q := eqD_of h1 (e ▸ h1) h2 h2 (by omega) (by omega)
  rw [SeqAt.eqv_refl p h2] at q
  exact ⟨by simp [fEq, q], by simp [fNe, q]⟩
mutual
theorem toPy_sh : ∀ d : D, toPy (sh d) = toPy d
  | .tup ds => by simp [toPy, toPyL_sh ds]
  | .lst o ds => by simp [toPy, toPyL_sh ds]
  | .frz ds => by simp [toPy, toPyL_sh ds]
  | .dct o ks ds => by simp [toPy]
  | .non => rfl
  | .bl _ => rfl
  | .int _ => rfl
  | .str _ => rfl
  | .exo _ _ => rfl
  | .dead => rfl
theorem toPyL_sh : ∀ ds : List D, toPyL (shL ds) = toPyL ds
  | [] => rfl
  | d :: ds => by simp [toPyL, toPy_sh d, toPyL_sh ds]
end
theorem plL_map {α : Type} {g : α → D} {n : Nat} (l : List α) (h : ∀ x ∈ l, pl (g x) n = true) : plL (l.map g) n = true := by
  induction l with
  | nil => rfl
  | cons a l ih => simp [plL, h a (by simp), ih fun x hx => h x (by simp [hx])]
theorem pl_fr (q : Rat) (n : Nat) : pl (fr q) (n + 1) = true := by simp [fr, pl, plL]
theorem pl_row (p : Nat × Rat) (n : Nat) : pl (row p) (n + 2) = true := by simp [row, pl, plL, pl_fr]
theorem pl_deed (o : Bool) (d : Side × Side) (n : Nat) : pl (deedD o d) (n + 4) = true := by
  simp only [deedD, pl, plL, Bool.and_true, Bool.and_eq_true]
  exact ⟨plL_map _ fun p _ => pl_row p n, plL_map _ fun p _ => pl_row p n⟩
theorem pl_net (o : Bool) (m : Nat) (ds : List (Side × Side)) : pl (netD o m ds) 6 = true := by
  simp only [netD, pl, plL, Bool.and_true, Bool.true_and]
  exact plL_map _ fun d _ => pl_deed o d 0
theorem net_eq (a b : Bool) (m : Nat) (ds : List (Side × Side)) : fEq (netD a m ds) (netD b m ds) = some (.bl true) ∧ fNe (netD a m ds) (netD b m ds) = some (.bl false) :=
  fEq_same (pl_net a m ds) (by decide) (by rw [← toPy_sh, ← toPy_sh (netD b m ds), sh_netD, sh_netD])
theorem frR_eq (a b : Bool) (m : Nat) (f : Nat → Rat) : fEq (.lst a (frR m f)) (.lst b (frR m f)) = some (.bl true) ∧ fNe (.lst a (frR m f)) (.lst b (frR m f)) = some (.bl false) :=
  fEq_same (n := 2) (by simp only [pl]; exact plL_map _ fun x _ => pl_fr _ 0) (by decide) rfl

/-! ### what one side brings -/
def amtc (c : Rat → Rat) : Side → Nat → Rat
  | [], _ => 0
  | p :: s, j => (if p.1 = j then c p.2 else 0) + amtc c s j
theorem amtc_id (s : Side) (j : Nat) : amtc id s j = amt s j := by
  induction s with
  | nil => rfl
  | cons a l ih => rw [amtc, amt, ih]; rfl
theorem amtc_neg (s : Side) (j : Nat) : amtc (fun q => -q) s j = -amt s j := by
  induction s with
  | nil => simp [amtc, amt]
  | cons a l ih =>
    rw [amtc, amt, ih]
    split <;> grind
theorem side_loop {m : Nat} {body : Stm} {x0 x1 : D} {c : Rat → Rat} {J : Rat → Prop} (step : ∀ f (p : Nat × Rat), p.1 < m → Sz p.2 40 → J (f p.1) → body [x0, x1, .lst true (frR m f), .int (p.1 : Int), fr p.2] = .nx [x0, x1, .lst true (frR m (updF f p.1 (f p.1 + c p.2))), .int (p.1 : Int), fr p.2]) :
    ∀ (s : Side) (f : Nat → Rat) (a b : D), SideOk m s → (∀ p ∈ s, J (f p.1)) → ∃ a' b', forL (gT 2 (gsC (gN 3) (gsC (gN 4) gsN))) body (sideL s) [x0, x1, .lst true (frR m f), a, b] = .nx [x0, x1, .lst true (frR m fun j => f j + amtc c s j), a', b']
  | [], f, a, b, _, _ => ⟨a, b, by simp only [sideL, List.map_nil, forL, amtc, Rat.add_zero]⟩
  | p :: s, f, a, b, h, hj => by
    obtain ⟨a', b', e⟩ := side_loop step s (updF f p.1 (f p.1 + c p.2)) (.int (p.1 : Int)) (fr p.2) h.tail (fun q hq => by
      have : q.1 ≠ p.1 := by have := (List.pairwise_cons.mp h.up).1 q hq; omega
      rw [updF, if_neg this]
      exact hj q (by simp [hq]))
    refine ⟨a', b', ?_⟩
    have s1 := step f p (h.lt p (by simp)) (h.sz p (by simp)) (hj p (by simp))
    simp only [sideL] at e ⊢
    rw [List.map_cons, forL]
    simp only [row, gT_app, List.length_cons, List.length_nil, if_true, gsC_app, gN_app, Option.bind_some, gsN_app, List.set_cons_succ, List.set_cons_zero, s1]
    rw [e]
    congr 5
    apply frR_ext
    intro j _
    rw [amtc]
    unfold updF
    by_cases hj : j = p.1
    · subst hj; simp; grind
    · rw [if_neg hj, if_neg (fun z => hj z.symm)]; grind
theorem fr_neg (q : Rat) : D.tup [.int (-q.num), .int (q.den : Int)] = fr (-q) := by simp [fr]
theorem law_change_spec {m : Nat} {d : Side × Side} (hm : m ≤ 1000) (h : DeedOk m d) : m__law_change [.int m, deedD false d] = .ok (.lst true (frR m (chg d)), .dead) := by
  obtain ⟨a, b, e1⟩ := side_loop (x0 := .int m) (x1 := deedD false d) (body := sSetIx 2 (eCall m__law_sum (aC (eIxV 2 (eV 3)) (aC (eV 4) (aN)))) (eV 3)) (c := id) (J := fun q => Sz q 100) (fun f p hp hz hj => by
    have s1 := sum_spec hj hz (by decide)
    simp [frR_ix hp, frR_at hp, s1, ixN_k hp, frR_set]) d.2 (fun _ => 0) .dead .dead h.r (fun p hp => zero_sz.mono (by decide))
  obtain ⟨a2, b2, e2⟩ := side_loop (x0 := .int m) (x1 := deedD false d) (body := sSetIx 2 (eCall m__law_sum (aC (eIxV 2 (eV 3)) (aC (eTup (aC (eBin fSub (eC (.int 0)) (eIxV 4 (eC (.int 0)))) (aC (eIxV 4 (eC (.int 1))) (aN)))) (aN)))) (eV 3)) (c := fun q => -q) (J := fun q => Sz q 100) (fun f p hp hz hj => by
    have hz' : Sz (-p.2) 40 := by
      refine ⟨?_, ?_⟩
      · have := hz.1; simpa using this
      · have := hz.2; simpa using this
    have s1 := sum_spec hj hz' (by decide)
    simp [frR_ix hp, frR_at hp, fr_neg, s1, ixN_k hp, frR_set]) d.1 (fun j => 0 + amtc id d.2 j) a b h.l (fun p hp => by
      rw [amtc_id, Rat.zero_add]
      exact (h.r.amt_sz _).mono (by decide))
  have e3 : frR m (fun j => 0 + amtc id d.2 j + amtc (fun q => -q) d.1 j) = frR m (chg d) := frR_ext fun j _ => by rw [amtc_id, amtc_neg]; unfold chg; grind
  rw [e3] at e2
  simp [m__law_change, b__law_change, fr0, mulD_zero hm, e1, e2]
theorem change_of_spec {m : Nat} {ds : List (Side × Side)} {k : Nat} (hm : m ≤ 1000) (hk : k < ds.length) (h : DeedOk m ds[k]) : m_change_of [netD false m ds, .int k] = .ok (.lst true (frR m (chg ds[k])), .dead) := by
  obtain ⟨a, b, e1⟩ := side_loop (x0 := netD false m ds) (x1 := .int k) (body := sSetIx 2 (eV 4) (eV 3)) (c := id) (J := fun q => q = 0) (fun f p hp hz hj => by
    simp only [hj, Rat.zero_add, id]
    simp [frR_ix hp, frR_at hp, ixN_k hp, frR_set]) ds[k].2 (fun _ => 0) .dead .dead h.r (fun p hp => rfl)
  obtain ⟨a2, b2, e2⟩ := side_loop (x0 := netD false m ds) (x1 := .int k) (body := sSetIx 2 (eCall m_lessened (aC (eIxV 2 (eV 3)) (aC (eV 4) (aN)))) (eV 3)) (c := fun q => -q) (J := fun q => Sz q 100) (fun f p hp hz hj => by
    have s1 := lessened_spec hj hz (by decide)
    rw [Rat.sub_eq_add_neg] at s1
    simp [frR_ix hp, frR_at hp, s1, ixN_k hp, frR_set]) ds[k].1 (fun j => 0 + amtc id ds[k].2 j) a b h.l (fun p hp => by
      rw [amtc_id, Rat.zero_add]
      exact (h.r.amt_sz _).mono (by decide))
  have e3 : frR m (fun j => 0 + amtc id ds[k].2 j + amtc (fun q => -q) ds[k].1 j) = frR m (chg ds[k]) := frR_ext fun j _ => by rw [amtc_id, amtc_neg]; unfold chg; grind
  rw [e3] at e2
  simp [m_change_of, b_change_of, fr0, mulD_zero hm, deeds_at hk, e1, e2]
/-! ### copies, stands looked at -/
theorem copied_spec {o : Bool} {m : Nat} {ds : List (Side × Side)} (hn : ds.length ≤ 1000) : m__law_copied [netD false m ds] = .ok (netD true m ds, .dead) := by
  have lc : lcL (gT 2 (gsC (gN 1) (gsC (gN 2) (gsN)))) bYes (eTup (aC (eG1V gList 1) (aC (eG1V gList 2) (aN)))) [1, 2] (deedsL false ds) [netD false m ds, .dead, .dead] = some (deedsL true ds, [netD false m ds, .dead, .dead]) :=
    lcL_map ds _ _ fun d hd => ⟨_, _, _, rfl, rfl, by simp; exact ⟨rfl, rfl⟩, rfl⟩
  have hn' : ds.length ≤ 100000 := by omega
  simp [m__law_copied, b__law_copied, lc, hn']
  simp [netD]
theorem known_fr (q : Rat) : Known (fr q) := rfl
theorem law_isfr {q : Rat} (h : q.den < 2 ^ 8999) : m__law_is_fraction [fr q] = .ok (.bl true, .dead) := by
  have := law_is_fraction_spec (tame_fr h)
  rwa [isFr_fr] at this
theorem isfr_spec {q : Rat} (h : q.den < 2 ^ 8999) : m_is_fraction [fr q] = .ok (.bl true, .dead) := by
  have := is_fraction_spec (tame_fr h)
  rwa [isFr_fr] at this
theorem lcL_none {α : Type} {f : Tgt} {b : Tst} {m : Exp} {vs : List Nat} {env : Env} (l : List α) (h : α → D) (hyp : ∀ x ∈ l, ∃ e e', f (h x) env = some e ∧ b e = .ok (false, e') ∧ wipeD e' vs = env) : lcL f b m vs (l.map h) env = some ([], env) := by
  have := lcL_filter (f := f) (b := b) (m := m) (vs := vs) (env := env) l h (fun _ => .non) (fun _ => false) (fun x hx => by
    obtain ⟨e, e', h1, h2, h3⟩ := hyp x hx
    exact ⟨e, e', h1, h2, fun _ => h3, fun z => by cases z⟩)
  rw [List.filter_eq_nil_iff.mpr (fun _ _ => by simp)] at this
  exact this
theorem fEq_nil (a b : Bool) : fEq (.lst a []) (.lst b []) = some (.bl true) := rfl
/-- a row of fractions that is the due one -/
theorem is_stand_spec {o o' : Bool} {m : Nat} {f g : Nat → Rat} (hm : m ≤ 1000) (h : ∀ j, j < m → f j = g j) (hz : ∀ j, j < m → (f j).den < 2 ^ 8999) : m__law_is_stand [.lst o (frR m f), .lst o' (frR m g)] = .ok (.bl true, .dead) := by
  have e : frR m g = frR m f := (frR_ext h).symm
  rw [e]
  have key : ∀ a b : Bool, lcL (gN 2) (bOr (bNot (bOf (eCall m__law_is_fraction (aC (eIxV 0 (eV 2)) (aN))))) (bOf (eBin fNe (eIxV 0 (eV 2)) (eIxV 1 (eV 2))))) (eV 2) [2] (rangeD 0 m) [.lst a (frR m f), .lst b (frR m f), .dead] = some ([], [.lst a (frR m f), .lst b (frR m f), .dead]) := fun a b => by
    unfold rangeD
    refine lcL_none _ _ fun k hk => ?_
    have hk : k < m := by simpa using hk
    refine ⟨_, _, rfl, by simp [frR_at hk, law_isfr (hz k hk), fNe_fr]; rfl, rfl⟩
  have h1 : -1000000 ≤ (m : Int) := by omega
  have h2 : (m : Int) ≤ 1000000 := by omega
  have h3 : m ≤ 100000 := by omega
  cases o <;> cases o' <;> simp [m__law_is_stand, b__law_is_stand, key, h1, h2, h3, instOf_def, rangeD_len, fEq_nil]

/-! ### all changes -/
theorem changes_of_spec {m : Nat} {ds : List (Side × Side)} (hm : m ≤ 1000) (hn : ds.length ≤ 1000) (h : ∀ d ∈ ds, DeedOk m d) : m_changes_of [netD false m ds] = .ok (.lst true (ds.map fun d => .lst true (frR m (chg d))), .dead) := by
  have lc : lcL (gN 1) bYes (eCall m_change_of (aC (eV 0) (aC (eV 1) (aN)))) [1] (rangeD 0 ds.length) [netD false m ds, .dead] = some ((List.range ds.length).map fun k => .lst true (frR m (chg (ds.getD k ([], [])))), [netD false m ds, .dead]) := by
    unfold rangeD
    refine lcL_map _ _ _ fun k hk => ?_
    have hk : k < ds.length := by simpa using hk
    have s1 := change_of_spec hm hk (h _ (List.getElem_mem hk))
    refine ⟨_, _, _, rfl, rfl, by simp [s1, hk]; rfl, rfl⟩
  have e : ((List.range ds.length).map fun k => D.lst true (frR m (chg (ds.getD k ([], []))))) = ds.map fun d => .lst true (frR m (chg d)) := by
    apply List.ext_getElem?
    intro i
    by_cases hi : i < ds.length
    · simp [hi]
    · simp [hi]
  rw [e] at lc
  have h1 : -1000000 ≤ (ds.length : Int) := by omega
  have h2 : (ds.length : Int) ≤ 1000000 := by omega
  have h3 : ds.length ≤ 100000 := by omega
  simp [m_changes_of, b_changes_of, lc, h1, h2, h3, rangeD_len]
/-- what deeds change, each as often as its part tells -/
def totL : List (Rat × (Side × Side)) → Nat → Rat
  | [], _ => 0
  | x :: l, j => x.1 * chg x.2 j + totL l j
theorem gt0_num {q : Rat} (h : 0 ≤ q) : (0 < q.num) ↔ q ≠ 0 := by
  have h1 := Rat.num_nonneg.mpr h
  constructor
  · intro h2 e; subst e; exact absurd h2 (by decide)
  · intro h2
    have := num0 h2
    omega
theorem change_loop {m k : Nat} {net parts : D} : ∀ (l : List (Rat × (Side × Side))) (f : Nat → Rat) (n : Nat) (a b : D), m ≤ 1000 → (∀ x ∈ l, 0 ≤ x.1 ∧ Sz x.1 k ∧ DeedOk m x.2) → (∀ j, Sz (f j) n) → n + (k + 83) * l.length + k + 90 ≤ 8000 →
    ∃ a' b', forL (gT 2 (gsC (gN 3) (gsC (gN 4) (gsN)))) (sIf (bOf (eBin fGt (eIxV 4 (eC (.int 0))) (eC (.int 0)))) (sAsg (eLc 7 (iZ (aC (eV 2) (aC (eV 3) (aN)))) (gT 2 (gsC (gN 5) (gsC (gN 6) (gsN)))) (bYes) (eCall m_added (aC (eV 5) (aC (eCall m_timed (aC (eV 4) (aC (eV 6) (aN)))) (aN)))) [5, 6]) (gN 2)) (sPass))
      (l.map fun x => .tup [.lst false (frR m (chg x.2)), fr x.1]) [net, parts, .lst true (frR m f), a, b, .dead, .dead] = .nx [net, parts, .lst true (frR m fun j => f j + totL l j), a', b', .dead, .dead]
  | [], f, n, a, b, _, _, _, _ => ⟨a, b, by simp only [List.map_nil, forL, totL, Rat.add_zero]⟩
  | x :: l, f, n, a, b, hm, hx, hf, hn => by
    obtain ⟨x0, x1, x2⟩ := hx x (by simp)
    have hn' : n + (k + 83) + (k + 83) * l.length + k + 90 ≤ 8000 := by simp only [List.length_cons, Nat.mul_add] at hn; omega
    have hf' : ∀ j, Sz (f j + x.1 * chg x.2 j) (n + (k + 83)) := fun j => ((hf j).add (x1.mul (x2.chg_sz j))).mono (by omega)
    obtain ⟨a', b', e⟩ := change_loop (net := net) (parts := parts) l (fun j => f j + x.1 * chg x.2 j) (n + (k + 83)) (.lst false (frR m (chg x.2))) (fr x.1) hm (fun y hy => hx y (by simp [hy])) hf' hn'
    refine ⟨a', b', ?_⟩
    have e2 : (fun j => f j + x.1 * chg x.2 j + totL l j) = fun j => f j + totL (x :: l) j := by
      funext j; rw [totL]; grind
    rw [e2] at e
    rw [List.map_cons, forL_cons]
    by_cases h0 : x.1 = 0
    · have n0 : ¬ (0 < x.1.num) := fun z => (gt0_num x0).mp z h0
      have e3 : (fun j => f j + x.1 * chg x.2 j) = f := by funext j; rw [h0]; grind
      rw [e3] at e
      simp [n0, e]
    · have n0 : 0 < x.1.num := (gt0_num x0).mpr h0
      have lc : lcL (gT 2 (gsC (gN 5) (gsC (gN 6) (gsN)))) bYes (eCall m_added (aC (eV 5) (aC (eCall m_timed (aC (eV 4) (aC (eV 6) (aN)))) (aN)))) [5, 6] (zipD (frR m f) (frR m (chg x.2))) [net, parts, .lst false (frR m f), .lst false (frR m (chg x.2)), fr x.1, .dead, .dead] =
          some (frR m fun j => f j + x.1 * chg x.2 j, [net, parts, .lst false (frR m f), .lst false (frR m (chg x.2)), fr x.1, .dead, .dead]) := by
        rw [zip_frR (α := Nat)]
        refine lcL_map _ _ _ fun j hj => ?_
        have s1 := timed_spec x1 (x2.chg_sz j) (by omega)
        have s2 := added_spec (hf j) (x1.mul (x2.chg_sz j)) (by omega)
        exact ⟨_, _, _, rfl, rfl, by simp [s1, s2]; rfl, rfl⟩
      have hz : (zipD (frR m f) (frR m (chg x.2))).length ≤ 100000 := by simp [zipD]; omega
      simp [n0, lc, hz, e]
theorem change_by_spec {o : Bool} {m k : Nat} {l : List (Rat × (Side × Side))} (hm : m ≤ 1000) (hn : (k + 83) * l.length + k + 91 ≤ 8000) (hn2 : l.length ≤ 1000) (hx : ∀ x ∈ l, 0 ≤ x.1 ∧ Sz x.1 k ∧ DeedOk m x.2) :
    m_change_by [netD false m (l.map (·.2)), .lst false (l.map fun x => fr x.1)] = .ok (.lst true (frR m (totL l)), .dead) := by
  have s1 := changes_of_spec (ds := l.map (·.2)) hm (by simp; omega) (fun d hd => by
    obtain ⟨x, h1, rfl⟩ := List.mem_map.mp hd
    exact (hx x h1).2.2)
  obtain ⟨a, b, e⟩ := change_loop (net := netD false m (l.map (·.2))) (parts := .lst false (l.map fun x => fr x.1)) l (fun _ => 0) 1 .dead .dead hm hx (fun _ => zero_sz) (by omega)
  have e2 : (fun j => 0 + totL l j) = totL l := by funext j; rw [Rat.zero_add]
  rw [e2] at e
  have z : zipD ((l.map (·.2)).map fun d => D.lst false (frR m (chg d))) (l.map fun x => fr x.1) = l.map fun x => .tup [.lst false (frR m (chg x.2)), fr x.1] := by
    unfold zipD
    rw [List.map_map, List.zipWith_map]
    clear e s1 hx hn
    induction l with
    | nil => rfl
    | cons y l ih => simp [ih]
  have sh1 : shL ((l.map (·.2)).map fun d => D.lst true (frR m (chg d))) = (l.map (·.2)).map fun d => D.lst false (frR m (chg d)) := by
    generalize l.map (·.2) = k
    induction k with
    | nil => rfl
    | cons y l ih => simp [ih]
  have sh2 : shL (l.map fun x => fr x.1) = l.map fun x => fr x.1 := shL_frs _ _
  simp only [List.map_map] at s1 z sh1
  simp [m_change_by, b_change_by, fr0, mulD_zero hm, s1, sh1, sh2, z, e]
end Fl

/-! Fl: the law's def run just where it is run: nobody's repr is under way there. -/
namespace Fl
open PySem PySem.Spec PyProof.Rows L2
/-- a promise of one call alone: at the surroundings A -/
def RunAt (P : Program) (w : World) (K : PySem.W.Frag) (mg : Str → Option Value) (base : Heap) (A : Around) (f : Addr) (fd : FuncData) (ps : List Str) (sp : Sp) : Prop :=
  ∀ (outer : List PySem.Env) (s : Shared) (H : Hp) (args : Args) (us : List Value) (vs : List V) (Q : VK) (E : XK), Env0 P w K mg base A outer s H → BindsTo s fd args (ps.zip us) → Vals vs us → sp vs H Q E →
    codeAny (model P w) A (.call (.ref f) args) (CR CX0 outer P w H s Q E) s
section
variable {P : Program} {w : World} {K : PySem.W.Frag} {mg mb : Str → Option Value} {base : Heap}
theorem run_def {x qual : Str} {st : Stmt} {f : Addr} {fd : FuncData} {N ps : List Str} {k n : Nat} {A : Around} {m : Stm} (F : Fun K x qual st f fd) (S : FnScope N ps (defScope st)) (hn : ps.length = n) (h0 : 0 < n) (hr : Room (k + 1) A)
    (body : ∀ (cdv : Value) (outer : List PySem.Env) (s : Shared) (H : Hp) (E : XK), Room k (A.deeper (envOfC qual (defScope st) s.heap.objs.size f cdv)) →
      ISs (cxOf CX0 P w K mg base N qual (defScope st) f cdv A outer s H E).nox W0 [] (defBody st) m) :
    RunAt P w K mg base A f fd ps (spI K n (fnM n N.length false m)) := by
  obtain ⟨oc, od, kV, doc, pm, an, cdv, ct, osl, rfl, lk, hcd⟩ := F.ex
  intro outer s H args us vs Q E e0 hb rv hsp
  have hlen : vs.length = ps.length := hn ▸ hsp.1
  have inH : ∀ b o, base.get? b = some o → s.heap.get? b = some o := fun b o q => (e0.bs b o q).1
  have hK : K.In s.heap := e0.mod.kin.keeps inH
  -- each parameter is a local or a cell
  have kinds : ∀ y ∈ ps.zip us, (defScope st).names.lookup y.1 = some .local ∨ ((defScope st).names.lookup y.1 = some .cell ∧ ((cellsFrom (s.heap.objs.size + 1) (defScope st).names []).lookup y.1).isSome = true) := by
    rintro ⟨y, v⟩ hy
    exact (S.par y (List.of_mem_zip hy).1).imp id fun q => ⟨q, PySem.W.cellsFrom_some _ _ _ (.inl q)⟩
  obtain ⟨t, h1, h2⟩ := body cdv outer s H E (hr.deeper _)
  have h3 := fn_end (io := false) (N := N) rfl h0 h2 hsp
  refine codeAny_call_function hr.depth (hK _ _ lk) rfl S.co S.gen rfl (PySem.W.codeRec_of hK hcd) (hb _ _ _ _ ?_)
  refine wpAny_newFunctionEnv_cells S.kind kinds fun env he s1 x => ?_
  subst he
  refine ⟨(e0.mod.nolimit.keeps inH).keeps x.toInCall.keep, codeAny_func (wpAny_mono (h1.nox.run [] s1 (start N vs) H _ (inv_start S hr.hd e0 hlen rv x) h3) (fun fl s' hs => ?_) fun _ _ hs => hs)⟩
  cases fl with
  | brk => obtain ⟨_, _, _, q⟩ := hs; exact q.elim
  | cont => obtain ⟨_, _, _, q⟩ := hs; exact q.elim
  | ret u => obtain ⟨v, σ', H', J, r, q⟩ := hs; exact ⟨v, H', J.os, J.bare, J.base, J.hok, r, q⟩
  | next => obtain ⟨σ', H', J, q⟩ := hs; exact ⟨.non, H', J.os, J.bare, J.base, J.hok, rfl, q⟩
/-- the heap in which nothing but the script is looked at -/
def scriptHp (K : PySem.W.Frag) (a : Addr) (vs : List Value) (ns : List Int) : Hp := fun b => if b = a ∧ K.lookup a = none then some (.frz { cls := .type "list", data := .seq vs.toArray } (.lst (ns.map V.int))) else none
theorem run_law {fa a : Addr} {fd : FuncData} {x : Str} {sp : Sp} {s₁ : Shared} {vs : List Value} {ns : List Int}
    (KX : K.In s₁.heap) (hns : s₁.heap.Ns mainGlobals mg) (hb : s₁.heap.Ns builtinsNs mb) (hbb : ∀ x : Str, x ≠ "__name__" → mb x = bootBuiltins x) (hlim : s₁.heap.NoLimit) (hg : s₁.gens = #[])
    (ha : s₁.heap.get? a = some { cls := .type "list", data := .seq vs.toArray }) (hi : IntsAre vs ns) (hl : ns.length ≤ sizeLine)
    (F : ∀ base : Heap, K.In base → base.Ns mainGlobals mg → RunAt P w K mg base callerA fa fd [x] sp) (hbind : ∀ (s : Shared) (u : Value), BindsTo s fd ⟨[u], []⟩ [(x, u)])
    (hsp : ∀ H : Hp, SqL K H a (ns.map V.int) → sp [.ref a] H (fun v _ => v = .bl true) fun _ _ _ => False) :
    codeAny (model P w) callerA (.call (.ref fa) ⟨[.ref a], []⟩) (fun r s' => r = .ok (.ret (.bool true)) ∧ OldK s₁.heap s'.heap ∧ s'.os = s₁.os ∧ AllBare s'.gens) s₁ := by
  generalize hH : scriptHp K a vs ns = H
  have only : ∀ b, H b ≠ none → b = a ∧ K.lookup a = none ∧ H b = some (.frz { cls := .type "list", data := .seq vs.toArray } (.lst (ns.map V.int))) := fun b h => by
    subst hH
    unfold scriptHp at h ⊢
    by_cases c : b = a ∧ K.lookup a = none
    · exact ⟨c.1, c.2, if_pos c⟩
    · rw [if_neg c] at h; exact absurd rfl h
  have out : ∀ b, H b = none ∨ (b = a ∧ K.lookup a = none ∧ H b = some (.frz { cls := .type "list", data := .seq vs.toArray } (.lst (ns.map V.int)))) := fun b => by
    by_cases c : H b = none
    · exact .inl c
    · exact .inr (only b c)
  have seq : SqL K H a (ns.map V.int) := by
    cases hk : K.lookup a with
    | none => exact .inl (.inr ⟨_, by subst hH; exact if_pos ⟨rfl, hk⟩⟩)
    | some o =>
      have e := KX a o hk
      rw [ha] at e
      cases e
      exact .inr ⟨_, vs.toArray, _, hk, rfl, rfl, rfl, by rw [List.size_toArray, hi.length]; exact hl, by simpa using vals_ints hi⟩
  have ok : HOk P w H s₁.heap := fun b u z => by
    rcases out b with q | ⟨rfl, _, q⟩
    · rw [q] at z; cases z
    · rw [q] at z; cases z
      exact ⟨ha, by rw [List.length_map]; exact hl, vs, _, vals_ints hi, ha⟩
  have stay : ∀ {b : Addr} {o : Obj}, s₁.heap.get? b = some o → (∀ ys n, o.data ≠ .seq ys n) → (hidT s₁.heap H).get? b = some o := fun {b o} e d => by
    rcases out b with q | ⟨rfl, _, _⟩
    · exact hidT_get e q
    · rw [ha] at e; cases e; exact absurd rfl (d _ _)
  have ns_ : ∀ {b : Addr} {m : Str → Option Value}, s₁.heap.Ns b m → (hidT s₁.heap H).Ns b m := fun {b m} ⟨o, es, ep, e, d, r⟩ => ⟨o, es, ep, stay e fun ys n z => (by rw [d] at z; cases z), d, r⟩
  have hKb : K.In (hidT s₁.heap H) := fun b o e => by
    rcases out b with q | ⟨rfl, k, _⟩
    · exact hidT_get (KX b o e) q
    · rw [k] at e; cases e
  have e0 : Env0 P w K mg (hidT s₁.heap H) callerA [] s₁ H := ⟨rfl, ⟨hKb, ns_ hns, ⟨mb, ns_ hb, hbb⟩, let ⟨mc, h1, h2⟩ := hlim; ⟨mc, ns_ h1, h2⟩⟩, fun b o e => of_hidT e, Nat.le_of_eq (hidT_size _ _), trivial, fun b hb => (by cases hb), ok, .of_eq hg⟩
  refine codeAny_mono (F _ hKb (ns_ hns) [] s₁ H ⟨[.ref a], []⟩ [.ref a] [.ref a] _ _ e0 (hbind s₁ (.ref a)) (.cons rfl .nil) (hsp H seq)) fun r s' h => ?_
  match r, h with
  | .ok (.ret u), ⟨v, H', os, bare, un, hok', rv, q⟩ =>
    have q' : v = .bl true := q
    subst q'
    obtain rfl : u = Value.bool true := rv
    refine ⟨rfl, OldK.of_keep fun b o e => ?_, os, bare⟩
    rcases out b with z | ⟨rfl, _, z⟩
    · exact un.keep b o e z (by intro y; cases y) (by simp)
    · obtain ⟨e1, _⟩ := ok b _ z
      obtain ⟨e2, _⟩ := hok' b _ (un.frzs b _ _ z)
      rw [e] at e1; cases e1
      exact e2
  | .ok .next, h => exact h.elim
  | .ok .brk, h => exact h.elim
  | .ok .cont, h => exact h.elim
  | .error e, h => exact h.elim
end
theorem walk_at {l : PySem.W.OpenLaw} {n : Nat} {q : Program} {loose : List Str} {XP : (Str → Option Value) → Heap → Prop} {YP : World → Heap → Prop} {d : DefRec} {K : Params → PySem.W.Frag} {sp : World → Sp} {x : Str}
    (hn : l.most = some n) (hn2 : n ≤ sizeLine) (hdf : d.params.defaults = [])
    (hY : ∀ (w : World) (h : Heap), YP w h → (K w.params).In h)
    (F : ∀ (w : World) (mg : Str → Option Value) (fa : Addr) (h : Heap), (K w.params).In h → h.Ns mainGlobals mg → mg d.name = some (.ref fa) →
      ∃ fd : FuncData, (∀ (s : Shared) (u : Value), BindsTo s fd ⟨[u], []⟩ [(x, u)]) ∧
        ∀ base : Heap, (K w.params).In base → base.Ns mainGlobals mg → RunAt l.prog w (K w.params) mg base callerA fa fd [x] (sp w))
    (hsp : ∀ (w : World) (H : Hp) (a : Addr) (ns : List Int), ns.length ≤ n → SqL (K w.params) H a (ns.map V.int) → sp w [.ref a] H (fun v _ => v = .bl true) fun _ _ _ => False) :
    PySem.W.WalkO q loose XP YP l.row.toRowW d [] (fun f vs => PySem.call f vs) := by
  refine Att.attach_call hn hdf fun w s₀ s₁ mg mb fa o pm cd doc a vs ns G Y ho hd hcd hmg hobj hints hlen hg => ?_
  obtain ⟨fd, hb, hF⟩ := F w mg fa _ (hY w _ Y) G.T.g hmg
  exact run_law (hY w _ Y) G.T.g G.T.b G.T.builtins G.T.nolimit hg hobj hints (Nat.le_trans hlen hn2) hF hb fun H hS => hsp w H a ns hlen hS
end Fl
namespace Fl
open PySem PySem.Spec PyProof.Rows L2
/-! ### repr where nobody's repr is under way -/
theorem hu70 {A : Around} {k : Nat} (hr : Room k A) : A.units + 70 < cLine := by have := hr.un; omega
def rpOk (p : PyData) : Bool := p.showable && !p.hasDict && decide (p.depth ≤ 64) && p.leavesShort 600 && decide (p.bulk ≤ 20000)
theorem rp_fits {p : PyData} (h : rpOk p = true) : p.shown.length ≤ sizeLine := by
  unfold rpOk at h
  simp only [Bool.and_eq_true, decide_eq_true_eq] at h
  have h1 := PyData.shown_le_bulk 600 (by decide) p h.1.2
  have h2 := h.2
  rw [sizeLine_eq]
  omega
def rRepr (K : PySem.W.Frag) : List V → Hp → VK → Prop := fun xs H Q => ∃ a p, xs = [.ref a] ∧ Dp K H (.ref a) p ∧ rpOk p = true ∧ Q (.str p.shown) H
theorem call_repr {X : Cx} (hg : X.A.guards = some []) (hu : X.A.units + 70 < cLine) : CallR X (.builtin "repr") (rRepr X.K) := by
  intro pins s σ H xs us Q I r h
  obtain ⟨a, p, rfl, hd, hp, q⟩ := h
  obtain ⟨u, rfl, rx⟩ : ∃ u, us = [u] ∧ RelV (.ref a) u := by
    cases r with
    | cons r1 r2 => cases r2; exact ⟨_, rfl, r1⟩
  obtain rfl : u = Value.ref a := rx
  obtain ⟨as, rd⟩ := Dp.reads I p _ _ hd rfl
  have hp' := hp
  unfold rpOk at hp
  simp only [Bool.and_eq_true, decide_eq_true_eq, Bool.not_eq_true'] at hp
  refine repr_of_reads' rd hp.1.1.1.1 (fun z => by rw [hp.1.1.1.2] at z; cases z) hg (by have := hp.1.1.2; omega) (fun _ _ h => h) (fun h' t tk k => ?_) (rp_fits hp')
  exact ⟨.str p.shown, H, I.kept k, ⟨t, rfl⟩, q⟩
def fRepr (d : D) : Option D := (itD d).bind fun _ => (toPy d).bind fun p => if rpOk p then some (.str p.shown) else none
theorem cg_repr {K : PySem.W.Frag} : CaG K (rRepr K) fRepr := by
  intro Hs H v c B C d r o h Q k
  unfold fRepr at h
  obtain ⟨ds, h1, h2⟩ := two_bind (γ := Nat) h
  obtain ⟨p, h3, h4⟩ := two_bind (γ := Nat) h2
  obtain ⟨a, xs, B', rfl, _⟩ := r.items o.sub h1
  by_cases hp : rpOk p = true
  · rw [if_pos hp] at h4; cases h4
    exact ⟨a, p, rfl, r.dp1 o.sub h3, hp, new_sc rfl o k⟩
  · rw [if_neg hp] at h4; cases h4
section
variable {X : Cx} {W : Wh} {a : Expr} {m : Exp} {p pos : Pos} {x : Str}
theorem ie_repr (hgd : X.A.guards = some []) (hu : X.A.units + 70 < cLine) (hm : X.mg "repr" = none) (ha : IE X W a m) (hg : Gl X "repr" := by rfl) (he : starEach (a :: []) X.env = (false, eval a X.env) :: starEach [] X.env := by rfl) (hpl : (backTo pos (starEach [] X.env)).any (·.1) = false := by rfl) :
    IE X W (.Call (.Name "repr" p) [a] [] pos) (eG1 fRepr m) := ie_fn1 (call_repr hgd hu) cg_repr (by decide +kernel) hm ha hg (by decide) (by decide) he hpl
theorem ie_reprV {py : Pos} (i : Nat) (hgd : X.A.guards = some []) (hu : X.A.units + 70 < cLine) (hm : X.mg "repr" = none) (hg : Gl X "repr" := by rfl)
    (hN : X.N[i]? = some x := by rfl) (hv : Vis X.env.scope x := by first | exact Or.inl rfl | exact Or.inr (Or.inl rfl) | exact Or.inr (Or.inr rfl)) (hd : (x == ("__debug__" : Str)) = false := by decide) (hcd : (x == ("__classdict__" : Str)) = false := by decide)
    (he : starEach (.Name x py :: []) X.env = (false, eval (.Name x py) X.env) :: starEach [] X.env := by rfl) (hpl : (backTo pos (starEach [] X.env)).any (·.1) = false := by rfl) :
    IE X W (.Call (.Name "repr" p) [.Name x py] [] pos) (eG1V fRepr i) := ie_fn1V i (call_repr hgd hu) cg_repr (by decide +kernel) hm hg hN hv hd hcd (by decide) (by decide) he hpl
end
end Fl

/-! Fl: what repr tells of plain data; stands of nets. -/
namespace Fl
open PySem
mutual
def lf : D → Bool
  | .int i => decide (i.natAbs.log2 < 1900)
  | .str x => x.cps.toList.all fun c => decide (c < 4294967296)
  | .tup ds => lfL ds
  | .lst _ ds => lfL ds
  | .frz ds => lfL ds
  | _ => true
def lfL : List D → Bool
  | [] => true
  | d :: ds => lf d && lfL ds
end
mutual
def bulkD : D → Nat
  | .str x => x.cps.size
  | .tup ds => bulkL ds
  | .lst _ ds => bulkL ds
  | .frz ds => bulkL ds
  | _ => 0
def bulkL : List D → Nat
  | [] => 0
  | d :: ds => bulkD d + 1 + bulkL ds
end
theorem p1900 : (2 : Nat) ^ 1900 ≤ 10 ^ 590 := by decide +kernel
theorem int_short {i : Int} (h : i.natAbs.log2 < 1900) : (PyData.shown (.int i)).length ≤ 600 := by
  have h1 : i.natAbs < 2 ^ 1900 := by
    by_cases h0 : i.natAbs = 0
    · rw [h0]; exact Nat.two_pow_pos 1900
    · exact (Nat.log2_lt h0).mp h
  have e := int_text_length_le10 (k := 590) (by decide) (Nat.lt_of_lt_of_le h1 p1900)
  show (Str.ofString (toString i)).length ≤ 600
  rw [ofString_length]; omega
mutual
theorem rp_py : ∀ (d : D) (n : Nat), pl d n = true → lf d = true → ∃ p, toPy d = some p ∧ p.canLay0 = true ∧ p.depth ≤ n ∧ p.showable = true ∧ p.leavesShort 600 = true ∧ p.bulk = bulkD d
  | .non, n, _, _ => ⟨_, rfl, rfl, Nat.zero_le _, rfl, rfl, rfl⟩
  | .bl _, n, _, _ => ⟨_, rfl, rfl, Nat.zero_le _, rfl, rfl, rfl⟩
  | .int i, n, _, h => by
    have h : i.natAbs.log2 < 1900 := by simpa [lf] using h
    exact ⟨_, rfl, rfl, Nat.zero_le _, by simp [PyData.showable]; omega, by simp only [PyData.leavesShort, decide_eq_true_eq]; exact int_short h, rfl⟩
  | .str x, n, h, h2 => ⟨_, rfl, h, Nat.zero_le _, rfl, by simpa [lf, PyData.leavesShort] using h2, rfl⟩
  | .tup ds, 0, h, _ => by simp [pl] at h
  | .tup ds, n + 1, h, h2 => by
    obtain ⟨ps, h1, h2, h3, h4, h5, h6⟩ := rpL_py ds n (by simpa [pl] using h) (by simpa [lf] using h2)
    exact ⟨.tuple ps, by simp [toPy, h1], by simpa [PyData.canLay0] using h2, by simp only [PyData.depth]; omega, by simpa [PyData.showable] using h4, by simpa [PyData.leavesShort] using h5, by simpa [PyData.bulk, bulkD] using h6⟩
  | .lst o ds, 0, h, _ => by simp [pl] at h
  | .lst o ds, n + 1, h, h2 => by
    obtain ⟨ps, h1, h2, h3, h4, h5, h6⟩ := rpL_py ds n (by simpa [pl] using h) (by simpa [lf] using h2)
    exact ⟨.list ps, by simp [toPy, h1], by simpa [PyData.canLay0] using h2, by simp only [PyData.depth]; omega, by simpa [PyData.showable] using h4, by simpa [PyData.leavesShort] using h5, by simpa [PyData.bulk, bulkD] using h6⟩
  | .frz ds, 0, h, _ => by simp [pl] at h
  | .frz ds, n + 1, h, h2 => by
    obtain ⟨ps, h1, h2, h3, h4, h5, h6⟩ := rpL_py ds n (by simpa [pl] using h) (by simpa [lf] using h2)
    exact ⟨.list ps, by simp [toPy, h1], by simpa [PyData.canLay0] using h2, by simp only [PyData.depth]; omega, by simpa [PyData.showable] using h4, by simpa [PyData.leavesShort] using h5, by simpa [PyData.bulk, bulkD] using h6⟩
  | .dct _ _ _, n, h, _ => by cases n <;> simp [pl] at h
  | .exo _ _, n, h, _ => by cases n <;> simp [pl] at h
  | .dead, n, h, _ => by cases n <;> simp [pl] at h
theorem rpL_py : ∀ (ds : List D) (n : Nat), plL ds n = true → lfL ds = true → ∃ ps, toPyL ds = some ps ∧ PyData.canLayAll0 ps = true ∧ PyData.depthAll ps ≤ n ∧ PyData.showableAll ps = true ∧ PyData.leavesShortAll 600 ps = true ∧ PyData.bulkAll ps = bulkL ds
  | [], n, _, _ => ⟨[], rfl, rfl, Nat.zero_le _, rfl, rfl, rfl⟩
  | d :: ds, n, h, h' => by
    simp only [plL, Bool.and_eq_true] at h
    simp only [lfL, Bool.and_eq_true] at h'
    obtain ⟨p, h1, h2, h3, h4, h5, h6⟩ := rp_py d n h.1 h'.1
    obtain ⟨ps, k1, k2, k3, k4, k5, k6⟩ := rpL_py ds n h.2 h'.2
    exact ⟨p :: ps, by simp [toPyL, h1, k1], by simp [PyData.canLayAll0, h2, k2], by simp only [PyData.depthAll]; omega, by simp [PyData.showableAll, h4, k4], by simp [PyData.leavesShortAll, h5, k5], by simp only [PyData.bulkAll, bulkL, h6, k6]⟩
end
theorem repr_ok {d : D} {n : Nat} (h1 : pl d n = true) (hn : n ≤ 64) (h2 : lf d = true) (h3 : bulkD d ≤ 20000) (h4 : (itD d).isSome = true) : ∃ t, fRepr d = some (.str t) := by
  obtain ⟨p, q1, q2, q3, q4, q5, q6⟩ := rp_py d n h1 h2
  have q7 := PyData.hasDict_of_canLay p q2
  obtain ⟨ds, h5⟩ := Option.isSome_iff_exists.mp h4
  refine ⟨p.shown, ?_⟩
  have : rpOk p = true := by
    unfold rpOk
    simp only [Bool.and_eq_true, decide_eq_true_eq, q4, q7, q5, Bool.not_false, true_and, and_true]
    omega
  simp [fRepr, h5, q1, this]
mutual
theorem sh_sh : ∀ d : D, sh (sh d) = sh d
  | .tup ds => by simp [shL_shL ds]
  | .lst o ds => by simp [shL_shL ds]
  | .frz ds => by simp [shL_shL ds]
  | .dct o ks ds => by simp [shL_shL ds]
  | .non => rfl
  | .bl _ => rfl
  | .int _ => rfl
  | .str _ => rfl
  | .exo _ _ => rfl
  | .dead => rfl
theorem shL_shL : ∀ ds : List D, shL (shL ds) = shL ds
  | [] => rfl
  | d :: ds => by simp [sh_sh d, shL_shL ds]
end
theorem shI_shI (d : D) : shI (shI d) = shI d := by cases d <;> simp [shI, shL_shL]
theorem sh_shI (d : D) : sh (shI d) = sh d := by cases d <;> simp [shI, shL_shL]
theorem fEq_str (a b : Str) : fNe (.str a) (.str b) = some (.bl (!(a == b))) ∨ True := .inr trivial
/-! ### a stand of a net -/
/-- an item as it comes into rows that are looked at -/
structure IOk (d : D) : Prop where
  tm : Tame d
  pl : pl d 8 = true
  lf : lf d = true
  bk : bulkD d ≤ 50
  sh : sh d = d
def stD : D → Bool
  | .tup [.int a, .int b] => isFr (.tup [.int a, .int b]) && decide (0 ≤ a)
  | _ => false
theorem stD_fr (q : Rat) : stD (fr q) = decide (0 ≤ q) := by
  have h := isFr_fr q
  unfold fr at h ⊢
  simp only [stD, h, Bool.true_and]
  simp only [Rat.num_nonneg]
theorem IOk.own {d : D} (h : IOk d) : own d = false := by rw [← h.sh, own_sh]
theorem isFr_inv {d : D} (h : isFr d = true) : ∃ a b, d = .tup [.int a, .int b] := by
  unfold isFr at h
  split at h
  · exact ⟨_, _, rfl⟩
  · cases h
theorem stD_not {d : D} (h : isFr d = false) : stD d = false := by
  unfold stD
  split
  · rw [h]; rfl
  · rfl
theorem forms {ds : List D} (hs : ∀ d ∈ ds, IOk d) : shL ds = ds := by
  induction ds with
  | nil => rfl
  | cons d l ih => rw [shL_cons, (hs d (by simp)).sh, ih fun x hx => hs x (by simp [hx])]
theorem lcL_items {f : Tgt} {b : Tst} {m : Exp} {vs : List Nat} {env : Env} (r : D → D) (p : D → Bool) (ds : List D) (hyp : ∀ x ∈ ds, ∃ e e', f x env = some e ∧ b e = .ok (p x, e') ∧ (p x = false → wipeD e' vs = env) ∧ (p x = true → ∃ e2, m e' = .ok (r x, e2) ∧ wipeD e2 vs = env)) :
    lcL f b m vs ds env = some ((ds.filter p).map r, env) := by
  have := lcL_filter (f := f) (b := b) (m := m) (vs := vs) (env := env) ds id r p hyp
  rwa [List.map_id] at this
theorem gAll_bls {o : Bool} {α : Type} (l : List α) (p : α → Bool) : gAll (.lst o (l.map fun x => .bl (p x))) = some (.bl (l.all p)) := by
  have : (l.map fun x => D.bl (p x)) = (l.map p).map .bl := by simp
  simp only [gAll, lsD_lst, Option.bind_some, this, toBls_map, Option.map_some]
  congr 2
  induction l with
  | nil => rfl
  | cons a l ih => simp_all
theorem are_shares_spec {o : Bool} {ds : List D} {m : Nat} (hs : ∀ d ∈ ds, IOk d) (hl : ds.length ≤ 1000) : m_are_shares_of [.lst o ds, .int m] = .ok (.bl (decide (ds.length = m) && ds.all stD), .dead) := by
  have e := forms hs
  have lc : ∀ a, lcL (gN 2) bYes (eAnd (eCall m_is_fraction (aC (eV 2) (aN))) (eBin fGe (eIxV 2 (eC (.int 0))) (eC (.int 0)))) [2] ds [.lst a ds, .int m, .dead] = some (ds.map fun x => .bl (stD x), [.lst a ds, .int m, .dead]) := fun a => by
    have := lcL_items (f := gN 2) (b := bYes) (m := eAnd (eCall m_is_fraction (aC (eV 2) (aN))) (eBin fGe (eIxV 2 (eC (.int 0))) (eC (.int 0)))) (vs := [2]) (env := [.lst a ds, .int m, .dead]) (fun x => .bl (stD x)) (fun _ => true) ds (fun x hx => by
      have hx := hs x hx
      have s1 := is_fraction_spec hx.tm
      refine ⟨[.lst a ds, .int m, x], [.lst a ds, .int m, x], rfl, rfl, fun z => Bool.noConfusion z, fun _ => ⟨[.lst a ds, .int m, x], ?_, rfl⟩⟩
      cases hf : isFr x with
      | false => simp [hx.own, hx.tm.1.nd, s1, hf, stD_not hf]
      | true =>
        obtain ⟨p, q, rfl⟩ := isFr_inv hf
        rw [hf] at s1
        simp [s1, stD, hf])
    rw [List.filter_eq_self.mpr (fun _ _ => rfl)] at this
    exact this
  have hz : ds.length ≤ 100000 := by omega
  by_cases hm : ds.length = m
  · subst hm
    cases o <;> simp [m_are_shares_of, b_are_shares_of, instOf_def, e, lc, hz, gAll_bls, shL_map (fun x : D => (rfl : sh (.bl (stD x)) = .bl (stD x)))]
  · have hm' : ((ds.length : Int) == (m : Int)) = false := by simp; omega
    cases o <;> simp [m_are_shares_of, b_are_shares_of, instOf_def, hm, hm']
end Fl
namespace Fl
open PySem
theorem is_stand_lst {o o2 : Bool} {ds xs : List D} {m : Nat} (hs : ∀ d ∈ ds, IOk d) (hl : ds.length ≤ 1000) : m_is_stand [.tup [.int m, .lst o2 xs], .lst o ds] = .ok (.bl (decide (ds.length = m) && ds.all stD), .dead) := by
  have s1 := are_shares_spec (o := false) hs hl (m := m)
  have e := forms hs
  cases o <;> cases o2 <;> simp [m_is_stand, b_is_stand, s1, e]
theorem are_shares_not {d : D} {m : Int} {k : String} (hk : kindD d = some k) (n : k ≠ "list") (n2 : k ≠ "bool") : m_are_shares_of [d, .int m] = .ok (.bl false, .dead) := by
  have hd : isDead d = false := by cases d <;> simp [kindD] at hk <;> rfl
  simp [m_are_shares_of, b_are_shares_of, hk, hd, instOf_def, n, n2]
theorem kind_sh (d : D) : kindD (sh d) = kindD d := by cases d <;> simp [kindD]
theorem is_stand_not {o2 : Bool} {d : D} {xs : List D} {m : Int} {k : String} (hk : kindD d = some k) (n : k ≠ "list") (n2 : k ≠ "bool") : m_is_stand [.tup [.int m, .lst o2 xs], d] = .ok (.bl false, .dead) := by
  have s1 := are_shares_not (m := m) (show kindD (sh d) = some k by rw [kind_sh]; exact hk) n n2
  have hd : isDead d = false := by cases d <;> simp [kindD] at hk <;> rfl
  cases o2 <;> simp [m_is_stand, b_is_stand, s1, hd]
theorem frR_snoc (f : Nat → Rat) (k : Nat) : frR k f ++ [fr (f k)] = frR (k + 1) f := by
  simp [frR, List.range_succ]
/-- appended: the row of one more place -/
theorem frR_push {f : Nat → Rat} {k : Nat} {q : Rat} : frR k f ++ [fr q] = frR (k + 1) (updF f k q) := by
  rw [← frR_snoc]
  congr 1
  · apply frR_ext
    intro j hj
    simp [updF, Nat.ne_of_lt hj]
  · simp [updF]
theorem stand_draw {r : D} (hr : RoomOk r) {m : Nat} (hm2 : m ≤ 1000) : ∃ f r', m__law_stand [r, .int m] = .ok (.lst true (frR m f), r') ∧ RoomOk r' ∧ ∀ j, j < m → 0 ≤ f j ∧ Sz (f j) 40 := by
  obtain ⟨e, hl, f, r2, a, b, rfl, hr2, hf⟩ := forL_range (f := gN 3) (body := (sSeq (sAsg (eTup (aC (eC (.int 0)) (aC (eC (.int 1)) (aN)))) (gN 4))
  (sSeq (sIf (bOf (eBin fEq (eCallX m__law_take 0 (aC (eC (.int 2)) (aN))) (eC (.int 1)))) (sAsg (eCallX m__law_amount 0 (aN)) (gN 4)) (sPass))
  (sApp 2 (eV 4))))) (fun k env => ∃ f r a b, env = [r, .int m, .lst true (frR k f), a, b] ∧ RoomOk r ∧ ∀ j, j < k → 0 ≤ f j ∧ Sz (f j) 40) (env := [r, .int m, .lst true [], .dead, .dead]) 0 m (fun k env _ hk ⟨f, r, a, b, he, hr, hf⟩ => by
      subst he
      obtain ⟨t, r1, e1, hr1, t0, t1⟩ := take_spec hr (n := 2) (by decide) (by decide)
      have hk2 : k < 100000 := by omega
      by_cases ht : t = 1
      · subst ht
        obtain ⟨q, r2, e2, hr2, q1, q2⟩ := amount_draw hr1
        refine ⟨_, _, rfl, .inl ?_, updF f k q, r2, .int k, fr q, rfl, hr2, fun j hj => ?_⟩
        · simp [e1, e2, hr.nd, hr1.nd, hr2.nd, isLst, hk2, fr0, frR_push]
        · unfold updF
          by_cases h : j = k
          · rw [if_pos h]; exact ⟨Rat.le_of_lt q2, q1⟩
          · rw [if_neg h]; exact hf j (by omega)
      · have nt : (t == 1) = false := by simpa using ht
        refine ⟨_, _, rfl, .inl ?_, updF f k 0, r1, .int k, fr 0, rfl, hr1, fun j hj => ?_⟩
        · simp [e1, nt, hr.nd, hr1.nd, isLst, hk2, fr0, frR_push]
        · unfold updF
          by_cases h : j = k
          · rw [if_pos h]; exact ⟨Rat.le_refl, zero_sz.mono (by decide)⟩
          · rw [if_neg h]; exact hf j (by omega)) ⟨fun _ => 0, r, .dead, .dead, rfl, hr, fun j hj => by omega⟩
  have l0 : ((0 : Nat) : Int) = 0 := rfl
  rw [l0] at hl
  simp only [Nat.zero_add] at hl hf
  have h1 : -1000000 ≤ (m : Int) := by omega
  have h2 : (m : Int) ≤ 1000000 := by omega
  exact ⟨f, r2, by simp [m__law_stand, b__law_stand, h1, h2, hl], hr2, hf⟩
theorem log_lt {n k : Nat} (h : n < 2 ^ k) (hk : 0 < k) : n.log2 < k := by
  by_cases h0 : n = 0
  · subst h0; exact hk
  · exact (Nat.log2_lt h0).mpr h
theorem iok_fr {q : Rat} (h : Sz q 1000) : IOk (fr q) := by
  refine ⟨tame_fr (lim_of h.2 (by decide)), pl_fr q 7, ?_, by simp [fr, bulkD, bulkL], by simp⟩
  have h1 := log_lt h.1 (by decide)
  have h2 := log_lt (show ((q.den : Int).natAbs) < 2 ^ 1000 by simpa using h.2) (by decide)
  simp only [fr, lf, lfL, Bool.and_true, Bool.and_eq_true, decide_eq_true_eq]
  omega
theorem fEq_nilL {a b : Bool} {xs : List D} {n : Nat} (h : plL xs n = true) (hn : n ≤ 60) : fEq (.lst a xs) (.lst b []) = some (.bl xs.isEmpty) ∧ fNe (.lst a xs) (.lst b []) = some (.bl (!xs.isEmpty)) := by
  obtain ⟨ps, h1, h2, h3⟩ := plL_py xs n h
  have e1 : toPy (.lst a xs) = some (.list ps) := by simp [toPy, h1]
  have e2 : toPy (.lst b []) = some (.list []) := rfl
  have q := eqD_of e1 e2 (by simpa [PyData.canLay0] using h2) rfl (by simp only [PyData.depth]; omega) (by decide)
  have : PyData.eqv (.list ps) (.list []) = xs.isEmpty := by
    cases xs with
    | nil => cases h1; rfl
    | cons d l =>
      cases ps with
      | nil =>
        simp only [toPyL] at h1
        cases hp : toPy d with
        | none => rw [hp] at h1; cases h1
        | some p =>
          rw [hp] at h1
          cases hq : toPyL l with
          | none => rw [hq] at h1; cases h1
          | some qs => rw [hq] at h1; cases h1
      | cons p ps => simp [PyData.eqv, PyData.eqvAll]
  rw [this] at q
  exact ⟨by simp [fEq, q], by simp [fNe, q]⟩
theorem plL_all {ds : List D} {n : Nat} (h : ∀ d ∈ ds, pl d n = true) : plL ds n = true := by
  induction ds with
  | nil => rfl
  | cons d l ih => simp [plL, h d (by simp), ih fun x hx => h x (by simp [hx])]
theorem lfL_all {ds : List D} (h : ∀ d ∈ ds, lf d = true) : lfL ds = true := by
  induction ds with
  | nil => rfl
  | cons d l ih => simp [lfL, h d (by simp), ih fun x hx => h x (by simp [hx])]
theorem bulkL_all {ds : List D} {n : Nat} (h : ∀ d ∈ ds, bulkD d ≤ n) : bulkL ds ≤ (n + 1) * ds.length := by
  induction ds with
  | nil => simp [bulkL]
  | cons d l ih =>
    have h1 := h d (by simp)
    have h2 := ih fun x hx => h x (by simp [hx])
    simp only [bulkL, List.length_cons, Nat.mul_add, Nat.mul_one]
    omega
theorem repr_items {d : D} {ds : List D} (hd : (∃ o, d = .lst o ds) ∨ d = .tup ds) (hs : ∀ x ∈ ds, IOk x) (hl : ds.length ≤ 300) : ∃ t, fRepr d = some (.str t) := by
  have h1 := plL_all fun x hx => (hs x hx).pl
  have h2 := lfL_all fun x hx => (hs x hx).lf
  have h3 := bulkL_all fun x hx => (hs x hx).bk
  rcases hd with ⟨o, rfl⟩ | rfl
  · exact repr_ok (n := 9) (by simpa [pl] using h1) (by decide) (by simpa [lf] using h2) (by simp only [bulkD]; omega) rfl
  · exact repr_ok (n := 9) (by simpa [pl] using h1) (by decide) (by simpa [lf] using h2) (by simp only [bulkD]; omega) rfl
end Fl
namespace Fl
open PySem
@[simp] theorem fEq_strs (a b : Str) : fEq (.str a) (.str b) = some (.bl (decide (a = b))) := rfl
@[simp] theorem fNe_strs (a b : Str) : fNe (.str a) (.str b) = some (.bl (!decide (a = b))) := rfl
end Fl

/-! Fl: rows weighed; rows compared. -/
namespace Fl
open PySem
def dotF (f g : Nat → Rat) : Nat → Rat
  | 0 => 0
  | k + 1 => dotF f g k + f k * g k
theorem dotF_sz {f g : Nat → Rat} {a b m : Nat} (hf : ∀ j, j < m → Sz (f j) a) (hg : ∀ j, j < m → Sz (g j) b) : ∀ k, k ≤ m → Sz (dotF f g k) ((a + b + 1) * k + 1)
  | 0, _ => zero_sz
  | k + 1, h => ((dotF_sz hf hg k (by omega)).add ((hf k (by omega)).mul (hg k (by omega)))).mono (by rw [Nat.mul_add]; omega)
theorem num_ne {q : Rat} : (q.num == 0) = decide (q = 0) := by
  by_cases h : q = 0
  · subst h; rfl
  · have := num0 h
    simp [h, this]
theorem zip_len {m n : Nat} {f g : Nat → Rat} : zipD (frR m f) (frR m g) = (List.range m).map fun j => .tup [fr (f j), fr (g j)] := zip_frR (α := Nat)
theorem weighed_spec {o o' : Bool} {m a b : Nat} {f g : Nat → Rat} (hf : ∀ j, j < m → Sz (f j) a) (hg : ∀ j, j < m → Sz (g j) b) (hz : (a + b + 1) * m + 1 + (a + b) ≤ 8999) : m_weighed [.lst o (frR m f), .lst o' (frR m g)] = .ok (fr (dotF f g m), .dead) := by
  have key : ∀ x y : Bool, ∃ u v, forL (gT 2 (gsC (gN 3) (gsC (gN 4) (gsN)))) (sIf (bAnd (bOf (eBin fNe (eIxV 3 (eC (.int 0))) (eC (.int 0)))) (bOf (eBin fNe (eIxV 4 (eC (.int 0))) (eC (.int 0))))) (sAsg (eCall m_added (aC (eV 2) (aC (eCall m_timed (aC (eV 3) (aC (eV 4) (aN)))) (aN)))) (gN 2)) (sPass))
      (zipD (frR m f) (frR m g)) [.lst x (frR m f), .lst y (frR m g), fr 0, .dead, .dead] = .nx [.lst x (frR m f), .lst y (frR m g), fr (dotF f g m), u, v] := fun x y => by
    rw [zip_len (n := m)]
    obtain ⟨e, h1, u, v, rfl⟩ := forL_map (f := gT 2 (gsC (gN 3) (gsC (gN 4) (gsN)))) (body := sIf (bAnd (bOf (eBin fNe (eIxV 3 (eC (.int 0))) (eC (.int 0)))) (bOf (eBin fNe (eIxV 4 (eC (.int 0))) (eC (.int 0))))) (sAsg (eCall m_added (aC (eV 2) (aC (eCall m_timed (aC (eV 3) (aC (eV 4) (aN)))) (aN)))) (gN 2)) (sPass))
      (fun k env => ∃ u v, env = [.lst x (frR m f), .lst y (frR m g), fr (dotF f g k), u, v]) (env := [.lst x (frR m f), .lst y (frR m g), fr 0, .dead, .dead]) (List.range m) (fun j => .tup [fr (f j), fr (g j)]) (fun k hk env he => by
        obtain ⟨u, v, rfl⟩ := he
        have hk : k < m := by simpa using hk
        simp only [List.getElem_range]
        refine ⟨_, _, rfl, .inl ?_, fr (f k), fr (g k), rfl⟩
        by_cases h0 : f k = 0
        · have : dotF f g (k + 1) = dotF f g k := by rw [dotF, h0]; grind
          rw [this]
          simp [num_ne, h0]
        · by_cases h1 : g k = 0
          · have : dotF f g (k + 1) = dotF f g k := by rw [dotF, h1]; grind
            rw [this]
            simp [num_ne, h0, h1]
          · have z1 := dotF_sz hf hg k (by omega)
            have z2 : (a + b + 1) * k ≤ (a + b + 1) * m := Nat.mul_le_mul_left _ (by omega)
            have s1 := timed_spec (hf k hk) (hg k hk) (by omega)
            have s2 := added_spec z1 ((hf k hk).mul (hg k hk)) (by omega)
            simp [num_ne, h0, h1, s1, s2, dotF]) ⟨.dead, .dead, rfl⟩
    rw [List.length_range] at h1
    exact ⟨u, v, h1⟩
  cases o <;> cases o'
  · obtain ⟨u, v, e⟩ := key false false; simp [m_weighed, b_weighed, fr0, e]
  · obtain ⟨u, v, e⟩ := key false false; simp [m_weighed, b_weighed, fr0, e]
  · obtain ⟨u, v, e⟩ := key false false; simp [m_weighed, b_weighed, fr0, e]
  · obtain ⟨u, v, e⟩ := key false false; simp [m_weighed, b_weighed, fr0, e]
theorem law_weighed_spec {o o' : Bool} {m a b : Nat} {f g : Nat → Rat} (hf : ∀ j, j < m → Sz (f j) a) (hg : ∀ j, j < m → Sz (g j) b) (hz : (a + b + 1) * m + 1 + (a + b) ≤ 8999) : m__law_weighed [.lst o (frR m f), .lst o' (frR m g)] = .ok (fr (dotF f g m), .dead) := by
  have key : ∃ u v, forL (gT 2 (gsC (gN 3) (gsC (gN 4) (gsN)))) (sIf (bAnd (bOf (eBin fNe (eIxV 3 (eC (.int 0))) (eC (.int 0)))) (bOf (eBin fNe (eIxV 4 (eC (.int 0))) (eC (.int 0))))) (sAsg (eCall m__law_sum (aC (eV 2) (aC (eCall m__law_times (aC (eV 3) (aC (eV 4) (aN)))) (aN)))) (gN 2)) (sPass))
      (zipD (frR m f) (frR m g)) [.lst false (frR m f), .lst false (frR m g), fr 0, .dead, .dead] = .nx [.lst false (frR m f), .lst false (frR m g), fr (dotF f g m), u, v] := by
    rw [zip_len (n := m)]
    obtain ⟨e, h1, u, v, rfl⟩ := forL_map (f := gT 2 (gsC (gN 3) (gsC (gN 4) (gsN)))) (body := sIf (bAnd (bOf (eBin fNe (eIxV 3 (eC (.int 0))) (eC (.int 0)))) (bOf (eBin fNe (eIxV 4 (eC (.int 0))) (eC (.int 0))))) (sAsg (eCall m__law_sum (aC (eV 2) (aC (eCall m__law_times (aC (eV 3) (aC (eV 4) (aN)))) (aN)))) (gN 2)) (sPass))
      (fun k env => ∃ u v, env = [.lst false (frR m f), .lst false (frR m g), fr (dotF f g k), u, v]) (env := [.lst false (frR m f), .lst false (frR m g), fr 0, .dead, .dead]) (List.range m) (fun j => .tup [fr (f j), fr (g j)]) (fun k hk env he => by
        obtain ⟨u, v, rfl⟩ := he
        have hk : k < m := by simpa using hk
        simp only [List.getElem_range]
        refine ⟨_, _, rfl, .inl ?_, fr (f k), fr (g k), rfl⟩
        by_cases h0 : f k = 0
        · have : dotF f g (k + 1) = dotF f g k := by rw [dotF, h0]; grind
          rw [this]
          simp [num_ne, h0]
        · by_cases h1 : g k = 0
          · have : dotF f g (k + 1) = dotF f g k := by rw [dotF, h1]; grind
            rw [this]
            simp [num_ne, h0, h1]
          · have z1 := dotF_sz hf hg k (by omega)
            have z2 : (a + b + 1) * k ≤ (a + b + 1) * m := Nat.mul_le_mul_left _ (by omega)
            have s1 := times_spec (hf k hk) (hg k hk) (by omega)
            have s2 := sum_spec z1 ((hf k hk).mul (hg k hk)) (by omega)
            simp [num_ne, h0, h1, s1, s2, dotF]) ⟨.dead, .dead, rfl⟩
    rw [List.length_range] at h1
    exact ⟨u, v, h1⟩
  obtain ⟨u, v, e⟩ := key
  cases o <;> cases o' <;> simp [m__law_weighed, b__law_weighed, fr0, e]
/-- two rows of fractions compared -/
def eqR (m : Nat) (f g : Nat → Rat) : Bool := (List.range m).all fun j => decide (f j = g j)
theorem toPyL_map {α : Type} {g : α → D} {p : α → PyData} (l : List α) (h : ∀ x, toPy (g x) = some (p x)) : toPyL (l.map g) = some (l.map p) := by
  induction l with
  | nil => rfl
  | cons a l ih => simp [toPyL, h a, ih]
def frP (q : Rat) : PyData := .tuple [.int q.num, .int (q.den : Int)]
theorem toPy_fr (q : Rat) : toPy (fr q) = some (frP q) := rfl
theorem eqv_fr (p q : Rat) : PyData.eqv (frP p) (frP q) = decide (p = q) := by
  have := fEq_fr p q
  rw [show fEq (fr p) (fr q) = (eqD (fr p) (fr q)).map .bl from rfl, eqD_of (toPy_fr p) (toPy_fr q) rfl rfl (by simp [frP, PyData.depth, PyData.depthAll]) (by simp [frP, PyData.depth, PyData.depthAll])] at this
  simpa using this
theorem eqvAll_map {α : Type} {p q : α → PyData} (l : List α) : PyData.eqvAll (l.map p) (l.map q) = l.all fun x => PyData.eqv (p x) (q x) := by
  induction l with
  | nil => rfl
  | cons a l ih => simp [PyData.eqvAll, ih]
theorem fEq_frR (a b : Bool) (m : Nat) (f g : Nat → Rat) : fEq (.lst a (frR m f)) (.lst b (frR m g)) = some (.bl (eqR m f g)) ∧ fNe (.lst a (frR m f)) (.lst b (frR m g)) = some (.bl (!eqR m f g)) := by
  obtain ⟨p, h1, h2, h3⟩ := pl_py (.lst a (frR m f)) 2 (by simp only [pl]; exact plL_map _ fun x _ => pl_fr _ 0)
  obtain ⟨q, k1, k2, k3⟩ := pl_py (.lst b (frR m g)) 2 (by simp only [pl]; exact plL_map _ fun x _ => pl_fr _ 0)
  have e := eqD_of h1 k1 h2 k2 (by omega) (by omega)
  have e1 : p = .list ((List.range m).map fun j => frP (f j)) := by
    have := toPyL_map (g := fun j => fr (f j)) (p := fun j => frP (f j)) (List.range m) fun _ => rfl
    simp only [toPy, frR, this, Option.map_some, Option.some.injEq] at h1
    exact h1.symm
  have e2 : q = .list ((List.range m).map fun j => frP (g j)) := by
    have := toPyL_map (g := fun j => fr (g j)) (p := fun j => frP (g j)) (List.range m) fun _ => rfl
    simp only [toPy, frR, this, Option.map_some, Option.some.injEq] at k1
    exact k1.symm
  subst e1 e2
  have e3 : PyData.eqv (.list ((List.range m).map fun j => frP (f j))) (.list ((List.range m).map fun j => frP (g j))) = eqR m f g := by
    simp only [PyData.eqv, eqvAll_map, eqv_fr]
    rfl
  rw [e3] at e
  exact ⟨by simp [fEq, e], by simp [fNe, e]⟩
theorem are_fractions_spec {o : Bool} {ds : List D} {m : Nat} (hs : ∀ d ∈ ds, IOk d) (hl : ds.length ≤ 1000) (hf : ∀ d ∈ ds, isFr d = true) : m_are_fractions [.lst o ds, .int m] = .ok (.bl (decide (ds.length = m)), .dead) := by
  have e := forms hs
  have lc : ∀ a, lcL (gN 2) bYes (eCall m_is_fraction (aC (eV 2) (aN))) [2] ds [.lst a ds, .int m, .dead] = some (ds.map fun x => .bl (isFr x), [.lst a ds, .int m, .dead]) := fun a => by
    have := lcL_items (f := gN 2) (b := bYes) (m := eCall m_is_fraction (aC (eV 2) (aN))) (vs := [2]) (env := [.lst a ds, .int m, .dead]) (fun x => .bl (isFr x)) (fun _ => true) ds (fun x hx => by
      have hx := hs x hx
      have s1 := is_fraction_spec hx.tm
      exact ⟨[.lst a ds, .int m, x], [.lst a ds, .int m, x], rfl, rfl, fun z => Bool.noConfusion z, fun _ => ⟨[.lst a ds, .int m, x], by simp [hx.own, hx.tm.1.nd, s1], rfl⟩⟩)
    rw [List.filter_eq_self.mpr (fun _ _ => rfl)] at this
    exact this
  have hz : ds.length ≤ 100000 := by omega
  have ha : ds.all isFr = true := List.all_eq_true.mpr hf
  by_cases hm : ds.length = m
  · subst hm
    cases o <;> simp [m_are_fractions, b_are_fractions, instOf_def, e, lc, hz, gAll_bls, shL_map (fun x : D => (rfl : sh (.bl (isFr x)) = .bl (isFr x))), ha]
  · have hm' : ((ds.length : Int) == (m : Int)) = false := by simp; omega
    cases o <;> simp [m_are_fractions, b_are_fractions, instOf_def, hm, hm']
end Fl

/-! Fl: a for over a list that is used up: its items are handed over. A comprehension by a function of its own. -/
namespace Fl
open PySem PySem.Spec PyProof.Rows L2
section
variable {K : PySem.W.Frag} {W : Wh} {σ σ' : L2.St} {env env' : Env} {F A A' B C : List Addr} {Hs H Hs' H' Hs'' H'' Hs0 : Hp} {t ta tb : TE} {m ma mb : Exp} {d d1 d2 : D} {v : V} {P : List Nat} {s u : TS} {sm um : Stm}
def sForM (m : Exp) (f : Tgt) (body : Stm) : Stm := fun env => match m env with
  | .ok p => (match p.1 with
    | .lst true ds => forL f body ds p.2
    | _ => .no)
  | .no => .no
  | .ex x e => .ex x e
theorem st_forM {g : TG} {f : Tgt} (em : EvI K W t m) (eg : GI K P g f) (eb : StI K W P s sm) : StI K W P (tFor (iList K t) g s) (sForM m f sm) := by
  intro σ env F Hs H A r o D
  unfold sForM
  cases h1 : m env with
  | no => trivial
  | ex x e' => exact fun k => em.ex r o h1 k.exO _
  | ok p =>
    obtain ⟨d, env1⟩ := p
    dsimp only
    split
    · rename_i ds
      suffices main : ∀ R, forL f sm ds env1 = R → R ≠ .no → (∀ e, R = .nx e → NxS K P σ F Hs H A D.nx e) → (∀ e, R = .bk e → NxS K P σ F Hs H A D.bk e) → (∀ e, R = .ct e → NxS K P σ F Hs H A D.ct e) →
          (∀ d e, R = .rt d e → RtS K P σ F Hs H A D.rt d e) → (∀ x e, R = .ex x e → ExS K W P σ F Hs H A x e) → tFor (iList K t) g s D σ H by
        cases hR : forL f sm ds env1 with
        | no => trivial
        | nx e => exact fun k => main _ hR (by simp) (fun e' h => by cases h; exact k) (fun e' h => by cases h) (fun e' h => by cases h) (fun d' e' h => by cases h) (fun x' e' h => by cases h)
        | bk e => exact fun k => main _ hR (by simp) (fun e' h => by cases h) (fun e' h => by cases h; exact k) (fun e' h => by cases h) (fun d' e' h => by cases h) (fun x' e' h => by cases h)
        | ct e => exact fun k => main _ hR (by simp) (fun e' h => by cases h) (fun e' h => by cases h) (fun e' h => by cases h; exact k) (fun d' e' h => by cases h) (fun x' e' h => by cases h)
        | rt d e => exact fun k => main _ hR (by simp) (fun e' h => by cases h) (fun e' h => by cases h) (fun e' h => by cases h) (fun d' e' h => by cases h; exact k) (fun x' e' h => by cases h)
        | ex x e => exact fun k => main _ hR (by simp) (fun e' h => by cases h) (fun e' h => by cases h) (fun e' h => by cases h) (fun d' e' h => by cases h) (fun x' e' h => by cases h; exact k)
      intro R hR nR kn kb kc kr kx
      refine em.ok r o h1 fun v Hs1 H1 B1 A1 rv r1 o1 g1 => ?_
      obtain ⟨p, xs, Ax, rfl, hp, hx, rfl⟩ := rv.lstO_inv
      have hlen := hx.length
      refine ⟨p, rfl, ⟨xs, .of hp⟩, ?_⟩
      refine for_it (walk_list (K := K) (a := p) (xs := xs)) (fun i σ' H' => ∃ env' Hs' A' R', ER K Hs' H' σ' env' A' ∧ RL K Hs' H' (xs.drop i) (ds.drop i) R' ∧ H' p = some (.lst xs) ∧ Ok Hs' H' ((p :: R') ++ (F ++ A')) ∧ Go Hs H A Hs' H' ((p :: R') ++ A') ∧ Pin P σ σ' ∧ forL f sm (ds.drop i) env' = R)
        ⟨env1, Hs1, A1, Ax, r1, by simpa using hx, hp, o1, g1, Pin.refl, by simpa using hR⟩ ?_ ?_ ?_
      · rintro i σ' H' _ ⟨e, Hs', A', R', _, _, hp', _⟩
        exact .of hp'
      · rintro i x σ' H' H2 hi ⟨e, Hs', A', R', r', rx', hp', o', g', p', hf⟩ hy
        obtain ⟨rfl, hxi⟩ := hy
        have hi' : i < ds.length := by omega
        rw [List.drop_eq_getElem_cons hi'] at rx' hf
        have hxi' : xs[i] = x := by rw [List.getElem?_eq_getElem hi] at hxi; exact Option.some.inj hxi
        rw [List.drop_eq_getElem_cons hi, hxi'] at rx'
        obtain ⟨B2, C2, rfl, q1, q2⟩ := rx'.un
        rw [forL] at hf
        cases hfd : f ds[i] e with
        | none => rw [hfd] at hf; exact absurd hf.symm nR
        | some e2 =>
          rw [hfd] at hf
          dsimp only at hf
          refine eg σ' e ((p :: C2) ++ F) Hs' H2 A' x ds[i] B2 e2 q1 r' (o'.less fun a => by simp only [List.count_cons, List.count_append]; omega) hfd _ fun σ3 A3 s1 s2 p3 => ?_
          have o3 : Ok Hs' H2 (((p :: C2) ++ F) ++ A3) := o'.less fun a => by have := s2 a; simp only [List.count_cons, List.count_append] at *; omega
          have g3 : Go Hs H A Hs' H2 ((p :: C2) ++ A3) := g'.less fun a c => by have := s2 a; simp only [List.count_cons, List.count_append] at *; omega
          have p4 : Pin P σ σ3 := p'.trans p3
          have cp : A3.count p = 0 := by have := o3.nd p; simp only [List.count_cons, List.count_append, beq_self_eq_true, if_true] at this; omega
          have cc : ∀ a, 0 < C2.count a → A3.count a = 0 := fun a c => by have := o3.nd a; simp only [List.count_cons, List.count_append] at this; omega
          have nxt : ∀ (e3 : Env), forL f sm (ds.drop (i + 1)) e3 = R → ∀ σ4 Hs4 H4 A4, ER K Hs4 H4 σ4 e3 A4 → Ok Hs4 H4 (((p :: C2) ++ F) ++ A4) → Go Hs' H2 A3 Hs4 H4 A4 → Pin P σ3 σ4 →
              ∃ env' Hs' A' R', ER K Hs' H4 σ4 env' A' ∧ RL K Hs' H4 (xs.drop (i + 1)) (ds.drop (i + 1)) R' ∧ H4 p = some (.lst xs) ∧ Ok Hs' H4 ((p :: R') ++ (F ++ A')) ∧ Go Hs H A Hs' H4 ((p :: R') ++ A') ∧ Pin P σ σ4 ∧ forL f sm (ds.drop (i + 1)) env' = R := fun e3 h3 σ4 Hs4 H4 A4 r4 o4 g5 p5 =>
            ⟨e3, Hs4, A4, C2, r4, q2.go g5 cc, g5.keep p _ hp' cp, o4.less fun a => by simp only [List.count_cons, List.count_append]; omega, g3.trans (g5.frame (F := p :: C2)), p4.trans p5, h3⟩
          cases hb : sm e2 with
          | no => rw [hb] at hf; exact absurd hf.symm nR
          | nx e3 =>
            rw [hb] at hf
            exact eb.go s1 o3 _ hb fun σ4 Hs4 H4 A4 r4 o4 g5 p5 => nxt e3 hf σ4 Hs4 H4 A4 r4 o4 g5 p5
          | ct e3 =>
            rw [hb] at hf
            exact eb.go s1 o3 _ hb fun σ4 Hs4 H4 A4 r4 o4 g5 p5 => nxt e3 hf σ4 Hs4 H4 A4 r4 o4 g5 p5
          | bk e3 =>
            rw [hb] at hf
            exact eb.go s1 o3 _ hb fun σ4 Hs4 H4 A4 r4 o4 g5 p5 => kn e3 hf.symm σ4 Hs4 H4 A4 r4 (o4.less fun a => by simp only [List.count_cons, List.count_append]; omega) ((g3.trans (g5.frame (F := p :: C2))).less fun a c => by simp only [List.count_cons, List.count_append]; omega) (p4.trans p5)
          | rt d e3 =>
            rw [hb] at hf
            exact eb.go s1 o3 _ hb fun v σ4 Hs4 H4 B4 A4 rv r4 o4 g5 p5 => kr d e3 hf.symm v σ4 Hs4 H4 B4 A4 rv r4 (o4.less fun a => by simp only [List.count_cons, List.count_append]; omega) ((g3.trans (g5.frame (F := p :: C2))).less fun a c => by simp only [List.count_cons, List.count_append] at *; omega) (p4.trans p5)
          | ex x' e3 =>
            rw [hb] at hf
            exact eb.go s1 o3 _ hb ⟨(kx x' e3 hf.symm).1, fun c od σ4 Hs4 H4 B4 A4 xr r4 o4 g5 p5 => (kx x' e3 hf.symm).2 c od σ4 Hs4 H4 B4 A4 xr r4 (o4.less fun a => by simp only [List.count_cons, List.count_append]; omega) ((g3.trans (g5.frame (F := p :: C2))).less fun a c => by simp only [List.count_cons, List.count_append] at *; omega) (p4.trans p5)⟩
      · rintro σ' H' ⟨e, Hs', A', R', r', rx', hp', o', g', p', hf⟩
        rw [hlen, List.drop_eq_nil_of_le (Nat.le_refl _), forL] at hf
        exact kn e hf.symm σ' Hs' H' A' r' (o'.less fun a => by simp only [List.count_cons, List.count_append]; omega) (g'.less fun a c => by simp only [List.count_cons, List.count_append]; omega) p'
    · trivial
/-- a comprehension, its turns named -/
def eLcF (n : Nat) (it : Itm) (L : List D → Env → Option (List D × Env)) (vs : List Nat) : Exp := fun env => match it env with
  | .ok p => if p.2.length = n ∧ p.1.length ≤ 100000 then (match L p.1 (wipeD p.2 vs) with
    | some r => .ok (.lst true r.1, backD p.2 vs r.2)
    | none => .no) else .no
  | .no => .no
  | .ex x e => .ex x e
@[simp] theorem eLcF_app {n : Nat} {it : Itm} {L : List D → Env → Option (List D × Env)} {vs : List Nat} : eLcF n it L vs env = (match it env with
  | .ok p => if p.2.length = n ∧ p.1.length ≤ 100000 then (match L p.1 (wipeD p.2 vs) with
    | some r => .ok (.lst true r.1, backD p.2 vs r.2)
    | none => .no) else .no
  | .no => .no
  | .ex x e => .ex x e) := rfl
@[simp] theorem sForM_app {f : Tgt} {b : Stm} : sForM m f b env = (match m env with
  | .ok p => (match p.1 with
    | .lst true ds => forL f b ds p.2
    | _ => .no)
  | .no => .no
  | .ex x e => .ex x e) := rfl
end
section
variable {X : Cx} {W : Wh} {P : List Nat} {a tg : Expr} {ma : Exp} {ss : List Stmt} {sm : Stm} {pos : Pos}
theorem is_forM {f : Tgt} (hp : PassesOwn (model X.prog X.w) X.A X.env X.xe) (hc : X.calm = true) (hi : IE X W a ma) (hg : IG X P tg f) (hb : ISs X W P ss sm) (hs : ∀ x, foldedSetIterable a X.env x = pure x := by intro _; rfl) :
    IS X W P (.For tg a ss [] pos) (sForM ma f sm) := let ⟨_, h1, h2⟩ := hi; let ⟨_, h3, h4⟩ := hg; let ⟨_, h5, h6⟩ := hb; ⟨_, ps_for hp hc (pi_list h1) h3 h5 hs, st_forM h2 h4 h6⟩
theorem lookup_relabel {env : PySem.Env} {x : Str} : ∀ {names : List (Str × NameKind)}, (match names.lookup x with | some .cell => true | some .free => true | _ => false) = true →
    (match (names.map fun (n, k) => if (k == NameKind.free && env.scope.kind == .function && env.kindOf n == some .cell) then (n, NameKind.cell) else (n, k)).lookup x with | some .cell => true | some .free => true | _ => false) = true
  | [], h => by simp at h
  | (n, k) :: r, h => by
    have ih := lookup_relabel (env := env) (x := x) (names := r)
    show (match List.lookup x ((if (k == NameKind.free && env.scope.kind == .function && env.kindOf n == some .cell) = true then (n, NameKind.cell) else (n, k)) :: _) with | some .cell => true | some .free => true | _ => false) = true
    cases hx : x == n with
    | true =>
      simp only [List.lookup_cons, hx] at h
      by_cases hc : (k == NameKind.free && env.scope.kind == .function && env.kindOf n == some .cell) = true
      · rw [if_pos hc]; simp only [List.lookup_cons, hx]
      · rw [if_neg hc]; simp only [List.lookup_cons, hx]; exact h
    | false =>
      simp only [List.lookup_cons, hx] at h
      by_cases hc : (k == NameKind.free && env.scope.kind == .function && env.kindOf n == some .cell) = true
      · rw [if_pos hc]; simp only [List.lookup_cons, hx]; exact ih h
      · rw [if_neg hc]; simp only [List.lookup_cons, hx]; exact ih h
theorem blkC_relabel {N : List Str} {sc scope : Scope} {own : List (Str × Nat)} {env : PySem.Env} (h : blkC N sc scope own = true) : blkC N (relabel sc env) scope own = true := by
  unfold blkC at h ⊢
  simp only [Bool.and_eq_true, List.all_eq_true] at h ⊢
  obtain ⟨h1, h2⟩ := h
  refine ⟨h1, fun y hy => ?_⟩
  have q := h2 y hy
  revert q
  cases y.2 with
  | free => exact fun q => lookup_relabel q
  | _ => exact id
/-- a comprehension within another one -/
theorem ie_lcB {scope scope0 : Scope} {i0 : Ix} {n : Nat} {mi : Itm} {f : Tgt} {ifs : List Expr} {bm : Tst} {elt iter : Expr} {m : Exp} (own : List (Str × Nat)) (N : List Str) (hc : (blkOf X scope0 i0).calm = true) (hN : (blkOf X scope0 i0).N.Nodup) (hi : II (blkOf X scope0 i0) W tg iter mi) (kf : Kp f)
    (hg : ∀ i : Ix, IG (blkOf (blkOf X scope0 i0) scope i) ((List.range n).filter fun i => !(own.map (·.2)).contains i) tg f) (ht : ∀ i : Ix, ITs (blkOf (blkOf X scope0 i0) scope i) W0 ifs bm) (he : ∀ i : Ix, IE (blkOf (blkOf X scope0 i0) scope i) W0 elt m)
    (ok : blkC N scope0 scope own = true := by decide +kernel) (eN : (blkOf X scope0 i0).N = N := by rfl) (hs : ∀ x, foldedSetIterable iter (blkOf X scope0 i0).env x = pure x := by intro _; rfl) :
    IE (blkOf X scope0 i0) W (.ListComp elt [⟨tg, iter, ifs, 0⟩] scope pos) (eLc n mi f bm m (own.map (·.2))) := ie_lc own N (relabel scope0 X.env) hc hN hi kf hg ht he (blkC_relabel ok) eN (by exact rfl) hs
end
end Fl

/-! Fl: places within lists and tuples: reading, storing, methods that change a list; a statement that borrows names. -/
namespace Fl
open PySem PySem.Spec PyProof.Rows L2
section
variable {K : PySem.W.Frag} {W : Wh} {σ σ' : L2.St} {env env' : Env} {F A A' B C : List Addr} {Hs H Hs' H' Hs'' H'' Hs0 : Hp} {t ta tb : TE} {m ma mb : Exp} {d d1 d2 : D} {v : V} {P : List Nat} {s u : TS} {sm um : Stm}
inductive PI where
  | ix (i : Int) | sl (j : Nat)
def tPI : PI → TE
  | .ix i => tC (.int i)
  | .sl j => tVar j
def tP (K : PySem.W.Frag) : TE → List PI → TE
  | t, [] => t
  | t, p :: ps => tP K (tOp (rIx K) t (tPI p)) ps
def idx1 (env : Env) (n : Nat) : PI → Option Nat
  | .ix i => ixN n i
  | .sl j => match env[j]? with
    | some (.int i) => ixN n i
    | _ => none
/-- the places' numbers -/
def res (env : Env) : D → List PI → Option (List Nat)
  | _, [] => some []
  | d, p :: ps => match itD d with
    | none => none
    | some ds => match idx1 env ds.length p with
      | none => none
      | some j => match ds[j]? with
        | none => none
        | some c => match res env c ps with
          | none => none
          | some js => some (j :: js)
def getN : D → List Nat → Option D
  | d, [] => some d
  | d, j :: js => match itD d with
    | none => none
    | some ds => match ds[j]? with
      | none => none
      | some c => getN c js
def putN : D → List Nat → D → Option D
  | _, [], x => some x
  | .tup ds, j :: js, x => match ds[j]? with
    | none => none
    | some c => match putN c js x with
      | none => none
      | some c' => some (.tup (ds.set j c'))
  | .lst true ds, j :: js, x => match ds[j]? with
    | none => none
    | some c => match putN c js x with
      | none => none
      | some c' => some (.lst true (ds.set j c'))
  | _, _ :: _, _ => none
theorem idx_read (r : ER K Hs H σ env A) {n : Nat} {p : PI} {j : Nat} (h : idx1 env n p = some j) : ∃ i, ixN n i = some j ∧ ∀ Q : VK, Q (.int i) H → tPI p σ H Q := by
  cases p with
  | ix i => exact ⟨i, h, fun Q q => q⟩
  | sl k =>
    unfold idx1 at h
    dsimp only at h
    split at h
    · rename_i i e
      obtain ⟨v, B, A', e1, e2, _⟩ := r.at e (by simp)
      exact ⟨i, h, fun Q q => ⟨v, e1, by rw [e2.int]; exact q⟩⟩
    · cases h
/-- an item, and all else -/
theorem RL.pick : ∀ {vs : List V} {ds : List D} {A : List Addr} {j : Nat} {d : D}, RL K Hs H vs ds A → ds[j]? = some d →
    ∃ (v : V) (B C : List Addr), vs[j]? = some v ∧ RL K Hs H [v] [d] B ∧ (∀ a, A.count a = B.count a + C.count a) ∧
      ∀ {Hs2 H2 : Hp} {x : D} {B2 : List Addr}, (∀ a o, Hs a = some o → Hs2 a = some o) → (∀ a o, 0 < C.count a → H a = some o → H2 a = some o) → RL K Hs2 H2 [v] [x] B2 → ∃ A2, RL K Hs2 H2 vs (ds.set j x) A2 ∧ ∀ a, A2.count a = B2.count a + C.count a
  | _, [], _, j, d, _, h => by simp at h
  | [], _ :: _, _, j, d, r, _ => by cases r
  | v :: vs, e :: ds, A, 0, d, r, h => by
    simp at h; subst h
    obtain ⟨B, C, rfl, r1, r2⟩ := RL.un r
    exact ⟨v, B, C, rfl, r1, fun a => by rw [List.count_append], fun {Hs2 H2 x B2} e k q => ⟨B2 ++ C, q.cons (r2.mono e k), fun a => by rw [List.count_append]⟩⟩
  | v :: vs, e :: ds, A, j + 1, d, r, h => by
    obtain ⟨B, C, rfl, r1, r2⟩ := RL.un r
    obtain ⟨w, B', C', h1, h2, h3, h4⟩ := RL.pick (j := j) (d := d) r2 (by simpa using h)
    refine ⟨w, B', B ++ C', by simpa using h1, h2, fun a => by have := h3 a; simp only [List.count_append]; omega, fun {Hs2 H2 x B2} e k q => ?_⟩
    obtain ⟨A2, q1, q2⟩ := h4 e (fun a o c => k a o (by rw [List.count_append]; omega)) q
    exact ⟨B ++ A2, (r1.mono e fun a o c => k a o (by rw [List.count_append]; omega)).cons q1, fun a => by have := q2 a; simp only [List.count_append]; omega⟩
theorem atI_of_ix {α : Type} {xs : List α} {i : Int} {j : Nat} {x : α} (h : ixN xs.length i = some j) (hx : xs[j]? = some x) : atI xs i = some x := by
  unfold atI; rw [h]; exact hx
/-- a place within owned lists and tuples: its value, how it is read, and how another tree is put there -/
theorem focus (re : ER K Hs H σ env A) : ∀ {ps : List PI} {js : List Nat} {d d' z : D} {v : V} {B : List Addr}, RL K Hs H [v] [d] B → (∀ a o, Hs a = some o → H a = some o) → res env d ps = some js → getN d js = some d' → putN d js d' = some z →
    ∃ (v' : V) (B' C : List Addr), RL K Hs H [v'] [d'] B' ∧ (∀ a, B.count a = B'.count a + C.count a) ∧ (∀ t : TE, (∀ Q : VK, Q v H → t σ H Q) → ∀ Q : VK, Q v' H → tP K t ps σ H Q) ∧
      ∀ {Hs2 H2 : Hp} {x : D} {B2 : List Addr}, (∀ a o, Hs a = some o → Hs2 a = some o) → (∀ a o, 0 < C.count a → H a = some o → H2 a = some o) → RL K Hs2 H2 [v'] [x] B2 → ∃ d2 B3, putN d js x = some d2 ∧ RL K Hs2 H2 [v] [d2] B3 ∧ ∀ a, B3.count a = B2.count a + C.count a
  | [], js, d, d', z, v, B, r, hs, h1, h2, h3 => by
    cases h1
    cases h2
    exact ⟨v, B, [], r, fun a => by simp, fun t ht Q q => ht Q q, fun {Hs2 H2 x B2} e k q => ⟨x, B2, by cases x <;> rfl, q, fun a => by simp⟩⟩
  | p :: ps, js, d, d', z, v, B, r, hs, h1, h2, h3 => by
    unfold res at h1
    split at h1
    · cases h1
    rename_i ds hi
    split at h1
    · cases h1
    rename_i j hj
    split at h1
    · cases h1
    rename_i c hc
    split at h1
    · cases h1
    rename_i js' hr
    cases h1
    have h2' : getN c js' = some d' := by
      unfold getN at h2
      rw [hi] at h2
      dsimp only at h2
      rw [hc] at h2
      exact h2
    obtain ⟨i, q1, q2⟩ := idx_read re hj
    cases d with
    | tup es =>
      cases hi
      have h3' : ∃ c', putN c js' d' = some c' := by
        unfold putN at h3
        rw [hc] at h3
        dsimp only at h3
        split at h3
        · cases h3
        · rename_i c' e; exact ⟨c', e⟩
      obtain ⟨c', h3'⟩ := h3'
      obtain ⟨p0, xs, rfl, hq, hx⟩ := r.tup_inv
      obtain ⟨w, B1, C1, k1, k2, k3, k4⟩ := hx.pick hc
      obtain ⟨v', B', C', g1, g2, g3, g4⟩ := focus re (ps := ps) k2 hs hr h2' h3'
      refine ⟨v', B', C' ++ C1, g1, fun a => by have := k3 a; have := g2 a; simp only [List.count_append]; omega, fun t ht Q q => g3 _ (fun Q q => ?_) Q q, fun {Hs2 H2 x B2} e k q => ?_⟩
      · exact ht _ (q2 _ (.inr (.inl ⟨p0, xs, i, w, rfl, rfl, ext_t hs hq, atI_of_ix (by rw [hx.length]; exact q1) k1, q⟩)))
      · obtain ⟨c2, B3, e1, e2, e3⟩ := g4 e (fun a o c => k a o (by rw [List.count_append]; omega)) q
        obtain ⟨A2, f1, f2⟩ := k4 e (fun a o c => k a o (by rw [List.count_append]; omega)) e2
        refine ⟨.tup (ds.set j c2), A2, ?_, by simpa using RL.tup (ext_t e hq) f1 RL.nil, fun a => by have := f2 a; have := e3 a; simp only [List.count_append]; omega⟩
        unfold putN
        rw [hc]
        dsimp only
        rw [e1]
    | lst o es =>
      cases hi
      cases o with
      | false => simp [putN] at h3
      | true =>
      have h3' : ∃ c', putN c js' d' = some c' := by
        unfold putN at h3
        rw [hc] at h3
        dsimp only at h3
        split at h3
        · cases h3
        · rename_i c' e; exact ⟨c', e⟩
      obtain ⟨c', h3'⟩ := h3'
      obtain ⟨p0, xs, Ax, rfl, hq, hx, rfl⟩ := r.lstO_inv
      obtain ⟨w, B1, C1, k1, k2, k3, k4⟩ := hx.pick hc
      obtain ⟨v', B', C', g1, g2, g3, g4⟩ := focus re (ps := ps) k2 hs hr h2' h3'
      refine ⟨v', B', p0 :: (C' ++ C1), g1, fun a => by have := k3 a; have := g2 a; simp only [List.count_cons, List.count_append]; omega, fun t ht Q q => g3 _ (fun Q q => ?_) Q q, fun {Hs2 H2 x B2} e k q => ?_⟩
      · exact ht _ (q2 _ (.inl ⟨p0, xs, i, w, rfl, rfl, .of hq, atI_of_ix (by rw [hx.length]; exact q1) k1, q⟩))
      · obtain ⟨c2, B3, e1, e2, e3⟩ := g4 e (fun a o c => k a o (by simp only [List.count_cons, List.count_append]; omega)) q
        obtain ⟨A2, f1, f2⟩ := k4 e (fun a o c => k a o (by simp only [List.count_cons, List.count_append]; omega)) e2
        refine ⟨.lst true (ds.set j c2), p0 :: A2, ?_, by simpa using RL.lstO (k p0 _ (by simp) hq) f1 RL.nil, fun a => by have := f2 a; have := e3 a; simp only [List.count_cons, List.count_append]; omega⟩
        unfold putN
        rw [hc]
        dsimp only
        rw [e1]
    | frz es => simp [putN] at h3
    | _ => simp [itD] at hi
/-! ### reading a place -/
/-- what a value is read to, owned or not -/
theorem path_read (re : ER K Hs H σ env A) : ∀ {ps : List PI} {js : List Nat} {d d' : D} {v : V} {B : List Addr}, RL K Hs H [v] [d] B → (∀ a o, Hs a = some o → H a = some o) → res env d ps = some js → getN d js = some d' →
    ∃ (v' : V) (B' : List Addr), RL K Hs H [v'] [d'] B' ∧ (∀ a, B'.count a ≤ B.count a) ∧ ∀ t : TE, (∀ Q : VK, Q v H → t σ H Q) → ∀ Q : VK, Q v' H → tP K t ps σ H Q
  | [], js, d, d', v, B, r, hs, h1, h2 => by
    cases h1
    cases h2
    exact ⟨v, B, r, fun a => Nat.le_refl _, fun t ht Q q => ht Q q⟩
  | p :: ps, js, d, d', v, B, r, hs, h1, h2 => by
    unfold res at h1
    split at h1
    · cases h1
    rename_i ds hi
    split at h1
    · cases h1
    rename_i j hj
    split at h1
    · cases h1
    rename_i c hc
    split at h1
    · cases h1
    rename_i js' hr
    cases h1
    have h2' : getN c js' = some d' := by
      unfold getN at h2
      rw [hi] at h2
      dsimp only at h2
      rw [hc] at h2
      exact h2
    obtain ⟨i, q1, q2⟩ := idx_read re hj
    obtain ⟨p0, xs, B', rfl, hq, hx, hb⟩ := r.items hs hi
    obtain ⟨w, B1, k1, k2, k3⟩ := hx.at hc
    obtain ⟨v', B2, g1, g2, g3⟩ := path_read re (ps := ps) k2 hs hr h2'
    refine ⟨v', B2, g1, fun a => Nat.le_trans (g2 a) (Nat.le_trans (k3 a) (hb a)), fun t ht Q q => g3 (tOp (rIx K) t (tPI p)) (fun Q q => ?_) Q q⟩
    have ha := atI_of_ix (xs := xs) (i := i) (by rw [hx.length]; exact q1) k1
    have rd : rIx K (.ref p0) (.int i) H Q := by
      rcases hq with hq | hq
      · exact .inl ⟨p0, xs, i, w, rfl, rfl, hq, ha, q⟩
      · exact .inr (.inl ⟨p0, xs, i, w, rfl, rfl, hq, ha, q⟩)
    exact ht _ (q2 _ rd)
/-- x[..][..], x a name: just what is read is shared -/
def eP (i : Nat) (ps : List PI) : Exp := fun env => match env[i]? with
  | none => .no
  | some c => match res env c ps with
    | none => .no
    | some js => match getN c js with
      | none => .no
      | some d => if isDead d then .no else if own d then (match putN c js d, putN c js (sh d) with
        | some _, some c2 => .ok (sh d, env.set i c2)
        | _, _ => .no) else .ok (d, env)
theorem getN_dead {js : List Nat} {d : D} (h : getN .dead js = some d) : d = .dead := by
  cases js with
  | nil => cases h; rfl
  | cons j js => simp [getN, itD] at h
theorem ev_p {i : Nat} {ps : List PI} : EvI K W (tP K (tVar i) ps) (eP i ps) := by
  intro σ env F Hs H A r o
  unfold eP
  split
  · trivial
  rename_i c hc
  split
  · trivial
  rename_i js hj
  split
  · trivial
  rename_i d hd
  cases hdd : isDead d with
  | true => trivial
  | false =>
  simp only [Bool.false_eq_true, if_false]
  have hcd : c ≠ .dead := fun e => by subst e; rw [getN_dead hd] at hdd; cases hdd
  have hlt := (List.getElem?_eq_some_iff.mp hc).1
  obtain ⟨v, B, A1, e1, e2, e3, e4⟩ := r.at hc hcd
  have base : ∀ Q : VK, Q v H → tVar i σ H Q := fun Q q => ⟨v, e1, q⟩
  cases hw : own d with
  | false =>
    intro Q k
    obtain ⟨v', B', g1, g2, g3⟩ := path_read r e2 o.sub hj hd
    have : B' = [] := g1.own0 (by simp [ownL, hw])
    subst this
    exact g3 _ base Q (k v' Hs H [] A g1 r (by simpa using o) (by simpa using Go.refl))
  | true =>
    simp only [if_true]
    split
    · rename_i z c2 h1 h2
      intro Q k
      obtain ⟨v', B', C, g1, g2, g3, g4⟩ := focus r e2 o.sub hj hd h1
      have o1 : Ok Hs H (B' ++ (F ++ (C ++ A1))) := o.less fun a => by have := e4 a; have := g2 a; simp only [List.count_append]; omega
      have s1 := g1.share1 o1
      obtain ⟨d2, B3, f1, f2, f3⟩ := g4 (pool_ext o1) (fun a u _ h => h) s1
      rw [h2] at f1; cases f1
      obtain ⟨A2, p1, p2⟩ := ER.give (e3.pool o1) f2 e1 hlt
      have cnt : ∀ a, A2.count a = C.count a + A1.count a := fun a => by have := p2 a; have := f3 a; simp only [List.count_nil] at *; omega
      refine g3 _ base Q (k v' _ _ [] A2 s1 p1 (o1.pool.less fun a => by have := cnt a; simp only [List.count_append, List.count_nil] at *; omega) ?_)
      have g : Go Hs H A Hs H (B' ++ (C ++ A1)) := Go.refl.less fun a c => by have := e4 a; have := g2 a; simp only [List.count_append] at c; omega
      exact (g.pool o1).less fun a c => by have := cnt a; simp only [List.nil_append, List.count_nil, List.count_append] at *; omega
    · trivial

/-! ### methods that change a list -/
theorem RL.two' {vs : List V} (r : RL K Hs H vs [d1, d2] B) : ∃ v w B1 B2, vs = [v, w] ∧ RL K Hs H [v] [d1] B1 ∧ RL K Hs H [w] [d2] B2 ∧ ∀ a, B.count a = B1.count a + B2.count a := by
  cases vs with
  | nil => cases r
  | cons v vs =>
    obtain ⟨B1, B2, rfl, r1, r2⟩ := r.un
    obtain ⟨w, rfl, r2⟩ := r2.one
    exact ⟨v, w, B1, B2, rfl, r1, r2, fun a => by rw [List.count_append]⟩
structure LOp (K : PySem.W.Frag) (r : V → List V → Hp → VK → Prop) (f : List D → List D → Option (List D × D)) : Prop where
  ok : ∀ {Hs H : Hp} {p : Addr} {xs vs : List V} {ds es ds' : List D} {d : D} {Ax B C : List Addr}, H p = some (.lst xs) → RL K Hs H xs ds Ax → RL K Hs H vs es B → Ok Hs H ((p :: Ax) ++ (B ++ C)) → f ds es = some (ds', d) →
    ∃ (xs' : List V) (v : V) (Ax' Bv : List Addr), RL K Hs (upd H p (.lst xs')) xs' ds' Ax' ∧ RL K Hs (upd H p (.lst xs')) [v] [d] Bv ∧ (∀ a, Ax'.count a + Bv.count a ≤ Ax.count a + B.count a) ∧ ∀ Q : VK, Q v (upd H p (.lst xs')) → r (.ref p) vs H Q
theorem Ok.np {p : Addr} {Ax : List Addr} (o : Ok Hs H ((p :: Ax) ++ (B ++ C))) : Ax.count p = 0 ∧ B.count p = 0 ∧ C.count p = 0 := by
  have := o.nd p
  simp only [List.count_cons, List.count_append, beq_self_eq_true, if_true] at this
  omega
def fAppend : List D → List D → Option (List D × D)
  | ds, [e] => if ds.length < 100000 then some (ds ++ [e], .non) else none
  | _, _ => none
def fClear : List D → List D → Option (List D × D)
  | _, [] => some ([], .non)
  | _, _ => none
def fPop : List D → List D → Option (List D × D)
  | ds, [] => match ds.getLast? with
    | some d => some (ds.dropLast, d)
    | none => none
  | _, _ => none
def fExtend : List D → List D → Option (List D × D)
  | ds, [.lst _ es] => if ds.length + es.length ≤ 100000 then some (ds ++ es, .non) else none
  | _, _ => none
def fInsert : List D → List D → Option (List D × D)
  | ds, [.int i, e] => if 0 ≤ i ∧ i ≤ 100000 ∧ ds.length < 100000 then some (ds.take i.toNat ++ [e] ++ ds.drop i.toNat, .non) else none
  | _, _ => none
def fReverse : List D → List D → Option (List D × D)
  | ds, [] => some (ds.reverse, .non)
  | _, _ => none
theorem lo_append : LOp K rAppend fAppend := ⟨fun {Hs H p xs vs ds es ds' d Ax B C} hp hx ra o h => by
  unfold fAppend at h
  split at h
  · split at h
    · rename_i hz
      cases h
      obtain ⟨v, rfl, rv⟩ := ra.one
      obtain ⟨n1, n2, n3⟩ := o.np
      exact ⟨xs ++ [v], .non, Ax ++ B, [], (hx.wr n1 _).app (rv.wr n2 _), .sc rfl .nil, fun a => by simp only [List.count_append, List.count_nil]; omega, fun Q q => ⟨p, xs, v, rfl, rfl, hp, by rw [hx.length]; exact Nat.lt_of_lt_of_le hz (by decide), q⟩⟩
    · cases h
  · cases h⟩
theorem lo_clear : LOp K rClear fClear := ⟨fun {Hs H p xs vs ds es ds' d Ax B C} hp hx ra o h => by
  unfold fClear at h
  split at h
  · cases h
    cases ra
    exact ⟨[], .non, [], [], .nil, .sc rfl .nil, fun a => by simp, fun Q q => ⟨p, xs, rfl, rfl, hp, q⟩⟩
  · cases h⟩
theorem RL.splitLast {xs : List V} {ds : List D} {Ax : List Addr} (r : RL K Hs H xs ds Ax) (h : ds.getLast? = some d) : ∃ (y : V) (B C : List Addr), xs[xs.length - 1]? = some y ∧ RL K Hs H [y] [d] B ∧ RL K Hs H xs.dropLast ds.dropLast C ∧ ∀ a, Ax.count a = B.count a + C.count a := by
  have e : ds = ds.dropLast ++ [d] := by
    obtain ⟨l, rfl⟩ := List.getLast?_eq_some_iff.mp h
    simp
  rw [e] at r
  obtain ⟨vs1, vs2, B, C, rfl, rfl, r1, r2⟩ := r.unapp
  obtain ⟨y, rfl, r2⟩ := r2.one
  exact ⟨y, C, B, by simp, r2, by simpa using r1, fun a => by rw [List.count_append]; omega⟩
theorem lo_pop : LOp K rPop fPop := ⟨fun {Hs H p xs vs ds es ds' d Ax B C} hp hx ra o h => by
  unfold fPop at h
  split at h
  · split at h
    · rename_i d2 hl
      cases h
      cases ra
      obtain ⟨n1, n2, n3⟩ := o.np
      obtain ⟨y, B1, C1, h1, h2, h3, h4⟩ := hx.splitLast hl
      have c1 := h4 p
      exact ⟨xs.dropLast, y, C1, B1, h3.wr (by omega) _, h2.wr (by omega) _, fun a => by have := h4 a; omega, fun Q q => ⟨p, xs, y, rfl, rfl, hp, h1, q⟩⟩
    · cases h
  · cases h⟩
theorem lo_extend : LOp K rExtend fExtend := ⟨fun {Hs H p xs vs ds es ds' d Ax B C} hp hx ra o h => by
  unfold fExtend at h
  split at h
  · rename_i ow es2
    split at h
    · rename_i hz
      cases h
      obtain ⟨v, rfl, rv⟩ := ra.one
      obtain ⟨q, zs, A2, rfl, hq, r2, c2⟩ := rv.lst_inv o.sub
      obtain ⟨n1, n2, n3⟩ := o.np
      have c3 := c2 p
      exact ⟨xs ++ zs, .non, Ax ++ A2, [], (hx.wr n1 _).app (r2.wr (by omega) _), .sc rfl .nil, fun a => by have := c2 a; simp only [List.count_append, List.count_nil]; omega,
        fun Q w => ⟨p, q, xs, zs, rfl, rfl, hp, hq, by rw [hx.length, r2.length]; exact sz1000 hz, w⟩⟩
    · cases h
  · cases h⟩
theorem RL.takeDrop {xs : List V} {ds : List D} {Ax : List Addr} (r : RL K Hs H xs ds Ax) (n : Nat) : ∃ B C, RL K Hs H (xs.take n) (ds.take n) B ∧ RL K Hs H (xs.drop n) (ds.drop n) C ∧ ∀ a, Ax.count a = B.count a + C.count a := by
  have hl := r.length
  rw [← List.take_append_drop n ds] at r
  obtain ⟨vs1, vs2, B, C, e, rfl, r1, r2⟩ := r.unapp
  have h1 := r1.length
  have e1 : xs.take n = vs1 := by
    rw [e]
    rw [List.length_take] at h1
    by_cases h : n ≤ ds.length
    · rw [Nat.min_eq_left h] at h1; rw [← h1]; simp
    · have h2 := r2.length
      rw [List.length_drop] at h2
      have : vs2 = [] := List.length_eq_zero_iff.mp (by omega)
      subst this
      simp only [List.append_nil]
      exact List.take_of_length_le (by omega)
  have e2 : xs.drop n = vs2 := by
    have : xs.take n ++ xs.drop n = vs1 ++ vs2 := by rw [List.take_append_drop, e]
    rw [e1] at this
    exact List.append_cancel_left this
  exact ⟨B, C, by rw [e1]; exact r1, by rw [e2]; exact r2, fun a => by rw [List.count_append]⟩
theorem lo_insert : LOp K (fun x vs H Q => ∃ (l : Addr) (xs : List V) (i : Int) (y : V), x = .ref l ∧ vs = [.int i, y] ∧ H l = some (.lst xs) ∧ xs.length < sizeLine ∧ 0 ≤ i ∧ i < 2 ^ 63 ∧ Q .non (upd H l (.lst (xs.take i.toNat ++ [y] ++ xs.drop i.toNat)))) fInsert := ⟨fun {Hs H p xs vs ds es ds' d Ax B C} hp hx ra o h => by
  unfold fInsert at h
  split at h
  · rename_i i e
    split at h
    · rename_i hz
      cases h
      obtain ⟨v, w, B1, B2, rfl, r1, r2, hb⟩ := ra.two'
      obtain ⟨n1, n2, n3⟩ := o.np
      obtain ⟨T, D, t1, t2, t3⟩ := hx.takeDrop i.toNat
      have c1 := t3 p
      have c2 := hb p
      refine ⟨xs.take i.toNat ++ [w] ++ xs.drop i.toNat, .non, T ++ B2 ++ D, [], ((t1.wr (by omega) _).app (r2.wr (by omega) _)).app (t2.wr (by omega) _), .sc rfl .nil, fun a => by have := t3 a; have := hb a; simp only [List.count_append, List.count_nil]; omega, fun Q q => ?_⟩
      exact ⟨p, xs, i, w, rfl, by rw [r1.int], hp, by rw [hx.length]; exact Nat.lt_of_lt_of_le hz.2.2 (by decide), hz.1, by omega, q⟩
    · cases h
  · cases h⟩
theorem RL.rev {xs : List V} {ds : List D} {Ax : List Addr} (r : RL K Hs H xs ds Ax) : ∃ B, RL K Hs H xs.reverse ds.reverse B ∧ ∀ a, B.count a = Ax.count a := by
  induction ds generalizing xs Ax with
  | nil => have := r.length; simp at this; subst this; exact ⟨Ax, r, fun a => rfl⟩
  | cons d ds ih =>
    cases xs with
    | nil => cases r
    | cons x xs =>
      obtain ⟨B, C, rfl, r1, r2⟩ := r.un
      obtain ⟨B', h1, h2⟩ := ih r2
      exact ⟨B' ++ B, by simpa using h1.app r1, fun a => by have := h2 a; simp only [List.count_append]; omega⟩
theorem lo_reverse : LOp K rReverse fReverse := ⟨fun {Hs H p xs vs ds es ds' d Ax B C} hp hx ra o h => by
  unfold fReverse at h
  split at h
  · cases h
    cases ra
    obtain ⟨n1, n2, n3⟩ := o.np
    obtain ⟨B', h1, h2⟩ := hx.rev
    have c1 := h2 p
    exact ⟨xs.reverse, .non, B', [], h1.wr (by omega) _, .sc rfl .nil, fun a => by have := h2 a; simp only [List.count_nil]; omega, fun Q q => ⟨p, xs, rfl, rfl, hp, q⟩⟩
  · cases h⟩
/-- x.m(..), x a name of an owned list -/
def eMut (i : Nat) (f : List D → List D → Option (List D × D)) (ms : Arg) : Exp := fun env => if isLst env i then (match ms env with
  | .no => .no
  | .ex x e => .ex x e
  | .ok p => match p.2[i]? with
    | some (.lst true ds) => (match f ds p.1 with
      | some q => .ok (q.2, p.2.set i (.lst true q.1))
      | none => .no)
    | _ => .no) else .no
theorem mut_end {r : V → List V → Hp → VK → Prop} {f : List D → List D → Option (List D × D)} (L : LOp K r f) {p : Addr} {xs vs : List V} {ds es ds' : List D} {Ax : List Addr} (hp : H p = some (.lst xs)) (hx : RL K Hs H xs ds Ax) (ra : RL K Hs H vs es B) (o : Ok Hs H ((p :: Ax) ++ (B ++ C))) (h : f ds es = some (ds', d)) :
    ∃ (xs' : List V) (v : V) (Bl Bv : List Addr), RL K Hs (upd H p (.lst xs')) [.ref p] [.lst true ds'] Bl ∧ RL K Hs (upd H p (.lst xs')) [v] [d] Bv ∧ (∀ a, Bl.count a + Bv.count a ≤ (p :: Ax).count a + B.count a) ∧ Ok Hs (upd H p (.lst xs')) (Bv ++ (Bl ++ C)) ∧
      Go Hs H ((p :: Ax) ++ B) Hs (upd H p (.lst xs')) (Bv ++ Bl) ∧ ∀ Q : VK, Q v (upd H p (.lst xs')) → r (.ref p) vs H Q := by
  obtain ⟨xs', v, Ax', Bv, h1, h2, h3, h4⟩ := L.ok hp hx ra o h
  have cnt : ∀ a, (p :: Ax').count a + Bv.count a ≤ (p :: Ax).count a + B.count a := fun a => by have := h3 a; simp only [List.count_cons]; omega
  have oo : Ok Hs H (p :: ((Ax ++ B) ++ C)) := o.less fun a => by simp only [List.count_cons, List.count_append]; omega
  refine ⟨xs', v, p :: Ax', Bv, by simpa using RL.lstO upd_same h1 RL.nil, h2, cnt, ?_, ?_, h4⟩
  · exact (oo.wr (A := Ax' ++ Bv) (B := Ax ++ B) (u := .lst xs') fun a => by have := h3 a; simp only [List.count_append]; omega).less fun a => by simp only [List.count_cons, List.count_append]; omega
  · exact (Go.wr (A := (p :: Ax) ++ B) (p := p) (by simp) (.lst xs')).less fun a c => by have := cnt a; simp only [List.count_cons, List.count_append] at *; omega
theorem ev_mut {r : V → List V → Hp → VK → Prop} {f : List D → List D → Option (List D × D)} (L : LOp K r f) {i : Nat} {ta : TA} {ms : Arg} (e : EvA K W ta ms) : EvI K W (tBM K "list" r (tVar i) ta) (eMut i f ms) := by
  intro σ env F Hs H A r0 o
  unfold eMut
  cases hl : isLst env i with
  | false => trivial
  | true =>
  rw [if_pos rfl]
  obtain ⟨p, hw, ty⟩ := isLst_at r0 o.sub hl
  cases h1 : ms env with
  | no => trivial
  | ex x e' => exact fun k Q => ⟨.ref p, hw, .inl ⟨rfl, ty⟩, e.ex r0 o h1 k _⟩
  | ok q =>
    obtain ⟨es, env2⟩ := q
    dsimp only
    split
    · rename_i ds hc
      split
      · rename_i z hz
        obtain ⟨ds', d⟩ := z
        intro Q k
        refine ⟨.ref p, hw, .inl ⟨rfl, ty⟩, e.ok r0 o h1 fun vs Hs2 H2 B1 A2 rv r2 o2 g2 => ?_⟩
        have hlt := (List.getElem?_eq_some_iff.mp hc).1
        obtain ⟨w', B0, A0, e1, e2, e3, e4⟩ := r2.at hc (by simp)
        rw [hw] at e1; cases e1
        obtain ⟨p', xs, Ax, ep, hp, hx, rfl⟩ := e2.lstO_inv
        cases ep
        have oo : Ok Hs2 H2 ((p :: Ax) ++ (B1 ++ (F ++ A0))) := o2.less fun a => by have := e4 a; simp only [List.count_cons, List.count_append] at *; omega
        obtain ⟨xs', v, Bl, Bv, q1, q2, q3, q4, q5, q6⟩ := mut_end L hp hx rv oo hz
        have n0 : A0.count p = 0 := by have := oo.nd p; simp only [List.count_cons, List.count_append, beq_self_eq_true, if_true] at this; omega
        obtain ⟨A3, p1, p2⟩ := ER.give (e3.wr (p := p) n0 (.lst xs')) q1 hw hlt
        refine q6 Q (k v Hs2 _ Bv A3 q2 p1 (q4.less fun a => by have := p2 a; simp only [List.count_append] at *; omega) ?_)
        have g3 : Go Hs H A Hs2 H2 (A0 ++ ((p :: Ax) ++ B1)) := g2.less fun a c => by have := e4 a; simp only [List.count_cons, List.count_append] at *; omega
        exact (g3.trans (q5.frame (F := A0))).less fun a c => by have := p2 a; simp only [List.count_append] at *; omega
      · trivial
    · trivial
/-- x[..][..].m(..): the arguments do not look at x -/
def eMutP (i : Nat) (ps : List PI) (f : List D → List D → Option (List D × D)) (ms : Arg) : Exp := fun env => match env[i]? with
  | none => .no
  | some c => match res env c ps with
    | none => .no
    | some js => match getN c js with
      | some (.lst true ds) => (match putN c js (.lst true ds) with
        | none => .no
        | some _ => match ms (env.set i .dead) with
          | .ok p => (match f ds p.1 with
            | none => .no
            | some q => match putN c js (.lst true q.1) with
              | none => .no
              | some c2 => .ok (q.2, p.2.set i c2))
          | _ => .no)
      | _ => .no
theorem ER.slot_dead (r : ER K Hs H σ env A) {i : Nat} (h : i < env.length) (B : List Addr) (d : D) (v : V) (rv : RL K Hs H [v] [d] B) (hv : σ[i]? = some (some v)) : ∃ A', ER K Hs H σ (env.set i d) A' ∧ ∀ a, A'.count a ≤ B.count a + A.count a := by
  obtain ⟨A1, h1, h2⟩ := ER.die (i := i) r
  obtain ⟨A2, h3, h4⟩ := ER.give h1 rv hv h
  exact ⟨A2, h3, fun a => by have := h2 a; have := h4 a; omega⟩
theorem ev_mutP {r : V → List V → Hp → VK → Prop} {f : List D → List D → Option (List D × D)} (L : LOp K r f) {i : Nat} {ps : List PI} {ta : TA} {ms : Arg} (e : EvA K W ta ms) : EvI K W (tBM K "list" r (tP K (tVar i) ps) ta) (eMutP i ps f ms) := by
  intro σ env F Hs H A r0 o
  unfold eMutP
  split
  · trivial
  rename_i c hc
  split
  · trivial
  rename_i js hj
  split
  · rename_i ds hd
    split
    · trivial
    rename_i z hz
    have hcd : c ≠ .dead := fun e => by subst e; have := getN_dead hd; cases this
    have hlt := (List.getElem?_eq_some_iff.mp hc).1
    obtain ⟨v0, B0, A1, e1, e2, e3, e4⟩ := r0.at hc hcd
    have base : ∀ Q : VK, Q v0 H → tVar i σ H Q := fun Q q => ⟨v0, e1, q⟩
    obtain ⟨v', B', C, g1, g2, g3, g4⟩ := focus r0 e2 o.sub hj hd hz
    obtain ⟨p, xs, Ax, rfl, hp, hx, rfl⟩ := g1.lstO_inv
    have ty : tyV K "list" (.ref p) H := .inl ⟨rfl, xs, .of hp⟩
    cases h1 : ms (env.set i .dead) with
    | no => trivial
    | ex x e' => trivial
    | ok q =>
      obtain ⟨es, env2⟩ := q
      dsimp only
      split
      · trivial
      rename_i w hw
      obtain ⟨ds', d⟩ := w
      split
      · trivial
      rename_i c2 h2
      intro Q k
      refine g3 _ base _ ⟨ty, ?_⟩
      -- the arguments, x taken out
      have o1 : Ok Hs H (((p :: Ax) ++ (C ++ F)) ++ A1) := o.less fun a => by have := e4 a; have := g2 a; simp only [List.count_cons, List.count_append] at *; omega
      refine e.ok (F := (p :: Ax) ++ (C ++ F)) e3 o1 h1 fun vs Hs2 H2 B1 A2 rv r2 o2 g5 => ?_
      have nA : ∀ a, 0 < (p :: (Ax ++ C)).count a → A1.count a = 0 := fun a c => by have := o1.nd a; simp only [List.count_cons, List.count_append] at *; omega
      have hp2 : H2 p = some (.lst xs) := g5.keep p _ hp (nA p (by simp))
      have hx2 : RL K Hs2 H2 xs ds Ax := hx.go g5 fun a c => nA a (by simp only [List.count_cons, List.count_append]; omega)
      have oo : Ok Hs2 H2 ((p :: Ax) ++ (B1 ++ (C ++ (F ++ A2)))) := o2.less fun a => by simp only [List.count_cons, List.count_append]; omega
      obtain ⟨xs', v, Bl, Bv, q1, q2, q3, q4, q5, q6⟩ := mut_end L hp2 hx2 rv oo hw
      have np : C.count p = 0 ∧ A2.count p = 0 := by have := oo.nd p; simp only [List.count_cons, List.count_append, beq_self_eq_true, if_true] at this; omega
      obtain ⟨d2, B3, f1, f2, f3⟩ := g4 (Hs2 := Hs2) (H2 := upd H2 p (.lst xs')) g5.hs (fun a u c h => by
        rw [upd_ne (fun z => by subst z; omega)]
        exact g5.keep a u h (nA a (by simp only [List.count_cons, List.count_append]; omega))) q1
      rw [h2] at f1; cases f1
      have hlt2 : i < env2.length := by
        have h3 := r2.length
        have h4 := r0.length
        rw [← h3, h4]; exact hlt
      obtain ⟨A3, p1, p2⟩ := ER.slot_dead (r2.wr (p := p) np.2 (.lst xs')) hlt2 B3 c2 v0 f2 e1
      refine q6 Q (k v Hs2 _ Bv A3 q2 p1 (q4.less fun a => by have := p2 a; have := f3 a; simp only [List.count_append] at *; omega) ?_)
      have g6 : Go Hs H A Hs H (((p :: Ax) ++ C) ++ A1) := Go.refl.less fun a c => by have := e4 a; have := g2 a; simp only [List.count_cons, List.count_append] at *; omega
      have g7 := g6.trans (g5.frame (F := (p :: Ax) ++ C))
      have g8 : Go Hs H A Hs2 H2 ((C ++ A2) ++ ((p :: Ax) ++ B1)) := g7.less fun a c => by simp only [List.count_cons, List.count_append] at *; omega
      exact (g8.trans (q5.frame (F := C ++ A2))).less fun a c => by have := p2 a; have := f3 a; simp only [List.count_append] at *; omega
  · trivial
/-- x[..][..][p] = e -/
def sSetP (i : Nat) (ps : List PI) (p : PI) (me : Exp) : Stm := fun env => match me env with
  | .no => .no
  | .ex x e => .ex x e
  | .ok q => match q.2[i]? with
    | none => .no
    | some c => match res q.2 c ps with
      | none => .no
      | some js => match getN c js with
        | some (.lst true ds) => (match putN c js (.lst true ds), idx1 q.2 ds.length p with
          | some _, some j => (match putN c js (.lst true (ds.set j q.1)) with
            | some c2 => .nx (q.2.set i c2)
            | none => .no)
          | _, _ => .no)
        | _ => .no
theorem st_setP {i : Nat} {ps : List PI} {p : PI} {te : TE} {me : Exp} (e : EvI K W te me) : StI K W P (tAsg te (gSub (tP K (tVar i) ps) (tPI p) rSetL)) (sSetP i ps p me) := by
  intro σ env F Hs H A r o D
  unfold sSetP
  cases h1 : me env with
  | no => trivial
  | ex x e' => exact fun k => e.ex r o h1 k.exO _
  | ok q =>
    obtain ⟨d, env1⟩ := q
    dsimp only
    split
    · trivial
    rename_i c hc
    split
    · trivial
    rename_i js hj
    split
    · rename_i ds hd
      split
      · rename_i z j hz hi
        split
        · rename_i c2 h2
          intro k
          refine e.ok r o h1 fun v Hs1 H1 B1 A1 rv r1 o1 g1 => ?_
          have hcd : c ≠ .dead := fun e => by subst e; have := getN_dead hd; cases this
          have hlt := (List.getElem?_eq_some_iff.mp hc).1
          obtain ⟨v0, B0, A0, e1, e2, e3, e4⟩ := r1.at hc hcd
          obtain ⟨v', B', C, g2, g3, g4, g5⟩ := focus r1 e2 o1.sub hj hd hz
          obtain ⟨p0, xs, Ax, rfl, hp, hx, rfl⟩ := g2.lstO_inv
          obtain ⟨ii, q1, q2⟩ := idx_read r1 hi
          refine g4 (tVar i) (fun Q q => ⟨v0, e1, q⟩) _ (q2 _ ?_)
          have oo : Ok Hs1 H1 (p0 :: ((B1 ++ Ax) ++ (C ++ (F ++ A0)))) := o1.less fun a => by have := e4 a; have := g3 a; simp only [List.count_cons, List.count_append] at *; omega
          have np := oo.nd p0
          simp only [List.count_cons, List.count_append, beq_self_eq_true, if_true] at np
          obtain ⟨A', s1, s2⟩ := RL.setAt (j := j) (hx.wr (p := p0) (x := .lst (xs.set j v)) (by omega)) (rv.wr (p := p0) (by omega) (.lst (xs.set j v)))
          have rl : RL K Hs1 (upd H1 p0 (.lst (xs.set j v))) [.ref p0] [.lst true (ds.set j d)] (p0 :: A') := by simpa using RL.lstO upd_same s1 RL.nil
          obtain ⟨d2, B3, f1, f2, f3⟩ := g5 (Hs2 := Hs1) (H2 := upd H1 p0 (.lst (xs.set j v))) (fun _ _ h => h) (fun a u c h => by rw [upd_ne (fun z => by subst z; omega)]; exact h) rl
          rw [h2] at f1; cases f1
          obtain ⟨A3, p1, p2⟩ := ER.give (e3.wr (p := p0) (by omega) (.lst (xs.set j v))) f2 e1 hlt
          refine ⟨p0, xs, ii, j, rfl, rfl, hp, by rw [hx.length]; exact q1, ?_⟩
          refine k σ Hs1 _ A3 p1 ((oo.wr (A := A') (B := B1 ++ Ax) fun a => by have := s2 a; simp only [List.count_append]; omega).less fun a => by have := p2 a; have := f3 a; simp only [List.count_cons, List.count_append] at *; omega) ?_ Pin.refl
          have g6 : Go Hs H A Hs1 H1 (p0 :: ((B1 ++ Ax) ++ (C ++ A0))) := g1.less fun a c => by have := e4 a; have := g3 a; simp only [List.count_cons, List.count_append] at *; omega
          exact (g6.trans (Go.wr (by simp) _)).less fun a c => by have := p2 a; have := s2 a; have := f3 a; simp only [List.count_cons, List.count_append] at *; omega
        · trivial
      · trivial
    · trivial

/-! ### a statement that borrows names -/
/-- the slots L shared -/
def shF (L : List Nat) : Nat → Env → Env
  | _, [] => []
  | k, d :: env => (if L.contains k then sh d else d) :: shF L (k + 1) env
/-- the env behind a statement that borrowed the slots L and does not store to the slots Q -/
def backF (L Q : List Nat) : Nat → Env → Env → Env
  | k, c :: old, d :: new => (if clean d then d else if Q.contains k && (L.contains k || !own c) then c else .dead) :: backF L Q (k + 1) old new
  | _, _, _ => []
def sBor (L Q : List Nat) (s : Stm) : Stm := fun env => match s (shF L 0 env) with
  | .nx e => if e.length = env.length then .nx (backF L Q 0 env e) else .no
  | .rt d e => .rt d e
  | .ex x e => .ex x e
  | _ => .no
inductive ER2 (K : PySem.W.Frag) (Hs H : Hp) (L : List Nat) : Nat → L2.St → List D → List Addr → List Addr → Prop
  | nil {k} : ER2 K Hs H L k [] [] [] []
  | dead {k x σ env Bp A} : ER2 K Hs H L (k + 1) σ env Bp A → ER2 K Hs H L k (x :: σ) (.dead :: env) Bp A
  | inL {k v d B σ env Bp A} : L.contains k = true → RL K Hs H [v] [d] B → ER2 K Hs H L (k + 1) σ env Bp A → ER2 K Hs H L k (some v :: σ) (d :: env) (B ++ Bp) A
  | out {k v d B σ env Bp A} : L.contains k = false → RL K Hs H [v] [d] B → ER2 K Hs H L (k + 1) σ env Bp A → ER2 K Hs H L k (some v :: σ) (d :: env) Bp (B ++ A)
theorem ER.two {L : List Nat} {σ : L2.St} {env : List D} {A : List Addr} (r : ER K Hs H σ env A) : ∀ k, ∃ Bp A', ER2 K Hs H L k σ env Bp A' ∧ ∀ a, A.count a = Bp.count a + A'.count a := by
  induction r with
  | nil => exact fun k => ⟨[], [], .nil, fun a => by simp⟩
  | dead _ ih => exact fun k => let ⟨Bp, A', h1, h2⟩ := ih (k + 1); ⟨Bp, A', .dead h1, h2⟩
  | @cons v d B σ env A q r ih =>
    intro k
    obtain ⟨Bp, A', h1, h2⟩ := ih (k + 1)
    cases hk : L.contains k with
    | true => exact ⟨B ++ Bp, A', .inL hk q h1, fun a => by have := h2 a; simp only [List.count_append]; omega⟩
    | false => exact ⟨Bp, B ++ A', .out hk q h1, fun a => by have := h2 a; simp only [List.count_append]; omega⟩
theorem ER2.shared {L : List Nat} {k : Nat} {σ : L2.St} {env : List D} {Bp A' Bt : List Addr} (r : ER2 K Hs H L k σ env Bp A') (h1 : ∀ a, 0 < Bp.count a → 0 < Bt.count a) (h2 : ∀ a o, Hs a = some o → Fl.pool Hs H Bt a = some o) : ER K (Fl.pool Hs H Bt) H σ (shF L k env) A' := by
  induction r with
  | nil => exact .nil
  | @dead k x σ env Bp A _ ih =>
    show ER K _ H (x :: σ) ((if L.contains k then sh .dead else .dead) :: shF L (k + 1) env) A
    have : (if L.contains k then sh D.dead else D.dead) = .dead := by split <;> rfl
    rw [this]
    exact .dead (ih h1)
  | @inL k v d B σ env Bp A hk q r ih =>
    unfold shF
    rw [if_pos hk]
    have s1 : RL K (Fl.pool Hs H Bt) H [v] [sh d] [] := q.share h2 fun a c => pool_in (h1 a (by rw [List.count_append]; omega))
    exact ER.cons (B := []) s1 (ih fun a c => h1 a (by rw [List.count_append]; omega))
  | @out k v d B σ env Bp A hk q r ih =>
    unfold shF
    rw [if_neg (by rw [hk]; simp)]
    exact .cons (q.mono h2 fun a o _ h => h) (ih h1)
theorem ER2.back {L Q : List Nat} {Hs2 H2 Hs3 : Hp} (ext : ∀ a u, Hs a = some u → Hs3 a = some u) (un : ∀ a xs, Rd Hs2 a (.tup xs) → Hs3 a = Hs2 a) {k : Nat} {σ : L2.St} {env : List D} {Bp A' : List Addr} (r : ER2 K Hs H L k σ env Bp A') :
    (∀ a u, 0 < Bp.count a → H a = some u → H2 a = some u) → ∀ {σ2 : L2.St} {new : List D} {A2 : List Addr}, ER K Hs2 H2 σ2 new A2 → new.length = env.length → (∀ i, Q.contains (k + i) = true → σ2[i]? = σ[i]?) →
    ∃ A3, ER K Hs3 H2 σ2 (backF L Q k env new) A3 ∧ ∀ a, A3.count a ≤ A2.count a + Bp.count a := by
  induction r with
  | nil =>
    intro _ σ2 new A2 r2 hl hp
    cases r2 with
    | nil => exact ⟨[], .nil, fun a => by simp⟩
    | dead _ => simp at hl
    | cons _ _ => simp at hl
  | @dead k x σ env Bp A r ih =>
    intro hk σ2 new A2 r2 hl hp
    cases r2 with
    | nil => simp at hl
    | @dead y σ3 env3 A4 r3 =>
      obtain ⟨A3, h1, h2⟩ := ih hk r3 (by simpa using hl) fun i hi => by have := hp (i + 1) (by rw [← hi]; congr 1; omega); simpa using this
      refine ⟨A3, ?_, h2⟩
      unfold backF
      have : (if clean D.dead then D.dead else if Q.contains k && (L.contains k || !own D.dead) then D.dead else .dead) = .dead := by simp
      rw [this]; exact .dead h1
    | @cons w d B2 σ3 env3 A4 q3 r3 =>
      obtain ⟨A3, h1, h2⟩ := ih hk r3 (by simpa using hl) fun i hi => by have := hp (i + 1) (by rw [← hi]; congr 1; omega); simpa using this
      unfold backF
      cases hc : clean d with
      | true => exact ⟨B2 ++ A3, .cons (q3.unshare (by simpa [cleanL] using hc) un) h1, fun a => by have := h2 a; simp only [List.count_append]; omega⟩
      | false =>
        have : (if false = true then d else if Q.contains k && (L.contains k || !own D.dead) then D.dead else .dead) = .dead := by simp
        rw [this]
        exact ⟨A3, .dead h1, fun a => by have := h2 a; simp only [List.count_append]; omega⟩
  | @inL k v c B σ env Bp A hkL q r ih =>
    intro hk σ2 new A2 r2 hl hp
    have hk' : ∀ a u, 0 < Bp.count a → H a = some u → H2 a = some u := fun a u z => hk a u (by rw [List.count_append]; omega)
    cases r2 with
    | nil => simp at hl
    | @dead y σ3 env3 A4 r3 =>
      obtain ⟨A3, h1, h2⟩ := ih hk' r3 (by simpa using hl) fun i hi => by have := hp (i + 1) (by rw [← hi]; congr 1; omega); simpa using this
      unfold backF
      rw [if_neg (by simp)]
      cases hq : Q.contains k with
      | false => exact ⟨A3, by simpa using ER.dead h1, fun a => by have := h2 a; simp only [List.count_append]; omega⟩
      | true =>
        have hv := hp 0 hq
        simp at hv
        subst hv
        rw [if_pos (by rw [hkL]; rfl)]
        exact ⟨B ++ A3, .cons (q.mono ext fun a u z => hk a u (by rw [List.count_append]; omega)) h1, fun a => by have := h2 a; simp only [List.count_append]; omega⟩
    | @cons w d B2 σ3 env3 A4 q3 r3 =>
      obtain ⟨A3, h1, h2⟩ := ih hk' r3 (by simpa using hl) fun i hi => by have := hp (i + 1) (by rw [← hi]; congr 1; omega); simpa using this
      unfold backF
      cases hc : clean d with
      | true => exact ⟨B2 ++ A3, .cons (q3.unshare (by simpa [cleanL] using hc) un) h1, fun a => by have := h2 a; simp only [List.count_append]; omega⟩
      | false =>
        rw [if_neg (by simp)]
        cases hq : Q.contains k with
        | false => exact ⟨A3, by simpa using ER.dead h1, fun a => by have := h2 a; simp only [List.count_append]; omega⟩
        | true =>
          have hv := hp 0 hq
          simp at hv
          subst hv
          rw [if_pos (by rw [hkL]; rfl)]
          exact ⟨B ++ A3, .cons (q.mono ext fun a u z => hk a u (by rw [List.count_append]; omega)) h1, fun a => by have := h2 a; simp only [List.count_append]; omega⟩
  | @out k v c B σ env Bp A hkL q r ih =>
    intro hk σ2 new A2 r2 hl hp
    cases r2 with
    | nil => simp at hl
    | @dead y σ3 env3 A4 r3 =>
      obtain ⟨A3, h1, h2⟩ := ih hk r3 (by simpa using hl) fun i hi => by have := hp (i + 1) (by rw [← hi]; congr 1; omega); simpa using this
      unfold backF
      rw [if_neg (by simp)]
      cases hq : (Q.contains k && (L.contains k || !own c)) with
      | false => exact ⟨A3, by simpa using ER.dead h1, h2⟩
      | true =>
        rw [if_pos rfl]
        simp only [Bool.and_eq_true, Bool.or_eq_true, hkL] at hq
        have hv := hp 0 (by simpa using hq.1)
        simp at hv
        subst hv
        have hw : own c = false := by simpa using hq.2
        have : B = [] := q.own0 (by simp [ownL, hw])
        subst this
        exact ⟨[] ++ A3, .cons (q.mono ext fun a u z => by simp at z) h1, fun a => by have := h2 a; simpa using this⟩
    | @cons w d B2 σ3 env3 A4 q3 r3 =>
      obtain ⟨A3, h1, h2⟩ := ih hk r3 (by simpa using hl) fun i hi => by have := hp (i + 1) (by rw [← hi]; congr 1; omega); simpa using this
      unfold backF
      cases hc : clean d with
      | true => exact ⟨B2 ++ A3, .cons (q3.unshare (by simpa [cleanL] using hc) un) h1, fun a => by have := h2 a; simp only [List.count_append]; omega⟩
      | false =>
        rw [if_neg (by simp)]
        cases hq : (Q.contains k && (L.contains k || !own c)) with
        | false => exact ⟨A3, by simpa using ER.dead h1, fun a => by have := h2 a; simp only [List.count_append]; omega⟩
        | true =>
          rw [if_pos rfl]
          simp only [Bool.and_eq_true, Bool.or_eq_true, hkL] at hq
          have hv := hp 0 (by simpa using hq.1)
          simp at hv
          subst hv
          have hw : own c = false := by simpa using hq.2
          have : B = [] := q.own0 (by simp [ownL, hw])
          subst this
          exact ⟨[] ++ A3, .cons (q.mono ext fun a u z => by simp at z) h1, fun a => by have := h2 a; simp only [List.count_append, List.count_nil]; omega⟩
theorem st_bor {L Q : List Nat} (hPQ : ∀ i ∈ P, i ∈ Q) (h : StI K W Q s sm) : StI K W P s (sBor L Q sm) := by
  intro σ env F Hs H A r o D
  unfold sBor
  obtain ⟨Bp, A1, q1, q2⟩ := ER.two (L := L) r 0
  have o1 : Ok Hs H (Bp ++ (F ++ A1)) := o.less fun a => by have := q2 a; simp only [List.count_append]; omega
  have r1 := q1.shared (Bt := Bp) (fun a c => c) (pool_ext o1)
  have gp : Go Hs H A (Fl.pool Hs H Bp) H A1 := (show Go Hs H A Hs H (Bp ++ A1) from Go.refl.less fun a c => by have := q2 a; rw [List.count_append] at c; omega).pool o1
  have hr : ∀ D, PostS K W Q s D σ F (Fl.pool Hs H Bp) H A1 (sm (shF L 0 env)) := fun D => h σ _ F _ H A1 r1 o1.pool D
  have pp : ∀ σ2, Pin Q σ σ2 → Pin P σ σ2 := fun σ2 p i hi => p i (hPQ i hi)
  cases hb : sm (shF L 0 env) with
  | no => trivial
  | bk e => trivial
  | ct e => trivial
  | rt d e =>
    have := hr D
    rw [hb] at this
    exact fun k => this fun v σ2 Hs2 H2 B2 A2 rv r2 o2 g2 p2 => k v σ2 Hs2 H2 B2 A2 rv r2 o2 (gp.trans g2) (pp _ p2)
  | ex x e =>
    have := hr D
    rw [hb] at this
    exact fun k => this ⟨k.1, fun c od σ2 Hs2 H2 B2 A2 xr r2 o2 g2 p2 => k.2 c od σ2 Hs2 H2 B2 A2 xr r2 o2 (gp.trans g2) (pp _ p2)⟩
  | nx e =>
    have main := hr D
    rw [hb] at main
    dsimp only
    split
    · rename_i hlen
      refine fun k => main fun σ2 Hs2 H2 A2 r2 o2 g2 p2 => ?_
      have kept : ∀ a u, 0 < Bp.count a → H a = some u → Hs2 a = some u := fun a u c h => g2.hs a u (by rw [pool_in c]; exact h)
      have ext : ∀ a u, Hs a = some u → (if 0 < Bp.count a then none else Hs2 a) = some u := fun a u h => by
        have c : ¬ 0 < Bp.count a := fun c => by rw [o1.off a (by simp only [List.count_append]; omega)] at h; cases h
        rw [if_neg c]
        exact g2.hs a u (pool_ext o1 a u h)
      have dis : ∀ a, 0 < A2.count a → Bp.count a = 0 := fun a c => by
        rcases g2.own a c with q | q
        · have := o1.nd a; simp only [List.count_append] at this; omega
        · by_cases z : 0 < Bp.count a
          · exact absurd q (o1.has a (by simp only [List.count_append]; omega))
          · omega
      have un : ∀ a xs, Rd Hs2 a (.tup xs) → (if 0 < Bp.count a then none else Hs2 a) = Hs2 a := fun a xs h => by
        by_cases c : 0 < Bp.count a
        · rcases r.ld a (by have := q2 a; omega) with ⟨ys, z⟩ | ⟨ys, z⟩
          all_goals
            have w := kept a _ c z
            rcases h with h | ⟨ob, h⟩ <;> (rw [w] at h; cases h)
        · rw [if_neg c]
      obtain ⟨A3, w1, w2⟩ := q1.back (Q := Q) (Hs2 := Hs2) (H2 := H2) (Hs3 := fun a => if 0 < Bp.count a then none else Hs2 a) ext un (fun a u c h => o2.sub a u (kept a u c h)) r2 hlen (fun i hi => by
        rw [Nat.zero_add] at hi
        exact p2 i (by simpa using hi))
      refine k σ2 _ H2 A3 w1 ⟨fun a u h => ?_, fun a => ?_, fun a c => ?_, fun a c => ?_⟩ ⟨ext, fun a u h c => ?_, fun a u h n => ?_, fun a c => ?_⟩ (pp _ p2)
      · by_cases c : 0 < Bp.count a
        · rw [if_pos c] at h; cases h
        · rw [if_neg c] at h; exact o2.sub a u h
      · have h1 := o2.nd a
        have h2 := o1.nd a
        have h3 := w2 a
        have h4 := dis a
        simp only [List.count_append] at *
        by_cases z : 0 < A2.count a
        · have := h4 z; omega
        · omega
      · by_cases z : 0 < Bp.count a
        · rw [if_pos z]
        · rw [if_neg z]
          have := w2 a
          exact o2.off a (by simp only [List.count_append] at *; omega)
      · by_cases z : 0 < Bp.count a
        · rcases none_or (H := H) a with q | ⟨u, q⟩
          · exact absurd q (o1.has a (by simp only [List.count_append]; omega))
          · rw [o2.sub a u (kept a u z q)]; simp
        · have := w2 a
          exact o2.has a (by simp only [List.count_append] at *; omega)
      · exact g2.keep a u h (by have := q2 a; omega)
      · by_cases c : 0 < Bp.count a
        · rw [if_pos c] at h; cases h
        · rw [if_neg c] at h
          rcases g2.back a u h (by rw [pool_out (by omega)]; exact n) with q | q
          · exact .inl (by have := q2 a; omega)
          · exact .inr q
      · have h3 := w2 a
        by_cases z : 0 < Bp.count a
        · exact .inl (by have := q2 a; omega)
        · rcases g2.own a (by omega) with q | q
          · exact .inl (by have := q2 a; omega)
          · exact .inr q
    · trivial
end
/-! ### by syntax -/
section
variable {X : Cx} {W : Wh} {P : List Nat} {a tg e b : Expr} {es : List Expr} {ma mb m : Exp} {ms : Arg} {s : Stmt} {sm : Stm} {pos p : Pos} {x : Str}
/-- a place: its syntax, its reading -/
def PP (X : Cx) (i : Nat) (e : Expr) (ps : List PI) : Prop := PE X e (tP X.K (tVar i) ps)
def PX (X : Cx) (e : Expr) (p : PI) : Prop := PE X e (tPI p)
theorem tP_snoc (K : PySem.W.Frag) : ∀ (ps : List PI) (t : TE) (p : PI), tP K t (ps ++ [p]) = tOp (rIx K) (tP K t ps) (tPI p)
  | [], t, p => rfl
  | q :: ps, t, p => tP_snoc K ps (tOp (rIx K) t (tPI q)) p
theorem pp_v (i : Nat) (hN : X.N[i]? = some x := by rfl) (hv : Vis X.env.scope x := by first | exact Or.inl rfl | exact Or.inr (Or.inl rfl) | exact Or.inr (Or.inr rfl)) (hd : (x == ("__debug__" : Str)) = false := by decide)
    (hcd : (x == ("__classdict__" : Str)) = false := by decide) : PP X i (.Name x pos) [] := pe_var hN hv hd hcd
theorem pp_ix {i : Nat} {ps : List PI} {q : PI} (h : PP X i a ps) (hb : PX X b q) (hs : PlainIx b := by exact fun _ _ => rfl) : PP X i (.Subscript a b pos) (ps ++ [q]) := by
  unfold PP at *
  rw [tP_snoc]
  exact pe_ix ix_seq h hb hs
theorem px_int {i : Int} {j} : PX X (.Constant (.int i) j pos) (.ix i) := pe_int
theorem px_neg {i : Int} {j} {p2 : Pos} : PX X (.UnaryOp .USub (.Constant (.int i) j pos) p2) (.ix (-i)) := ⟨fun pins s σ H Q I h => (pe_un (X := X) (pos := p2) un_neg (pe_int (i := i) (pos := pos))).run pins s σ H Q I ⟨i, rfl, h⟩⟩
theorem px_v (i : Nat) (hN : X.N[i]? = some x := by rfl) (hv : Vis X.env.scope x := by first | exact Or.inl rfl | exact Or.inr (Or.inl rfl) | exact Or.inr (Or.inr rfl)) (hd : (x == ("__debug__" : Str)) = false := by decide)
    (hcd : (x == ("__classdict__" : Str)) = false := by decide) : PX X (.Name x pos) (.sl i) := pe_var hN hv hd hcd
theorem ie_p {i : Nat} {ps : List PI} (h : PP X i a ps) : IE X W a (eP i ps) := ⟨_, h, ev_p⟩
theorem is_bor {Q : List Nat} (L : List Nat) (h : IS X W Q s sm) (hPQ : ∀ i ∈ P, i ∈ Q := by decide) : IS X W P s (sBor L Q sm) := let ⟨_, h1, h2⟩ := h; ⟨_, h1, st_bor hPQ h2⟩
theorem is_setP {i : Nat} {ps : List PI} {q : PI} {pos' : Pos} (hm : IE X W e m) (h : PP X i a ps) (hb : PX X b q)
    (hs : swapsWithSole [.Subscript a b pos'] e pos.line X.env = pure false := by rfl) (hw : swappedStores [.Subscript a b pos'] e X.env = pure none := by rfl)
    (h1 : (assignEach [.Subscript a b pos'] X.env).map (·.2) = [assign (.Subscript a b pos') X.env] := by rfl)
    (hsub : ∀ v, assign (.Subscript a b pos') X.env v = (do
      let ov ← holding [v] (eval a X.env)
      let iv ← holding [v, ov] (eval b X.env)
      standAt pos'
      holding [v, ov, iv] (setItem ov iv v)
      release [v, ov, iv] []) := by intro _; rfl) :
    IS X W P (.Assign [.Subscript a b pos'] e pos) (sSetP i ps q m) := let ⟨_, h3, h2⟩ := hm; ⟨_, ps_asg h3 (pg_sub h hb set_list hsub) hs hw h1, st_setP h2⟩
section
variable {name : Str} {id : String} {r : V → List V → Hp → VK → Prop} {f : List D → List D → Option (List D × D)} {apos cpos : Pos} {o : Expr}
theorem ie_mut1 {py : Pos} (i : Nat) (pa : PlainAttrs "list") (slot : Slot "list" name id) (hty : typeOf (.builtin id) = pure (.type "method_descriptor")) (hm : MtR X id r) (L : LOp X.K r f) (ha : IA X W (e :: es) ms)
    (hN : X.N[i]? = some x := by rfl) (hv : Vis X.env.scope x := by first | exact Or.inl rfl | exact Or.inr (Or.inl rfl) | exact Or.inr (Or.inr rfl)) (hd : (x == ("__debug__" : Str)) = false := by decide)
    (hcd : (x == ("__classdict__" : Str)) = false := by decide)
    (hbase : attributeBase (.Name x py) name X.env (eval (.Name x py) X.env) = eval (.Name x py) X.env := by rfl)
    (hfew : ((backTo cpos (starEach (e :: es) X.env)).all (fun x => !x.1) && (backToKw cpos (keywordEach [] X.env)).all (fun x => x.1.isSome)
      && decide ((e :: es).length + ([] : List Keyword).length + (if ([] : List Keyword).isEmpty then 0 else 1) < 30)) = true := by rfl)
    (hline : (apos.endLine == cpos.line) = true := by rfl) (hs : starEach (e :: es) X.env = (false, eval e X.env) :: starEach es X.env := by rfl) (hplain : (backTo cpos (starEach es X.env)).any (·.1) = false := by rfl) :
    IE X W (.Call (.Attribute (.Name x py) name apos) (e :: es) [] cpos) (eMut i f ms) := let ⟨_, h1, h2⟩ := ha; ⟨_, pe_bm pa slot hty hm (pe_var hN hv hd hcd) h1 hbase hfew hline hs hplain, ev_mut L h2⟩
theorem ie_mut0 {py : Pos} (i : Nat) (pa : PlainAttrs "list") (slot : Slot "list" name id) (hty : typeOf (.builtin id) = pure (.type "method_descriptor")) (hm : MtR X id r) (L : LOp X.K r f)
    (hN : X.N[i]? = some x := by rfl) (hv : Vis X.env.scope x := by first | exact Or.inl rfl | exact Or.inr (Or.inl rfl) | exact Or.inr (Or.inr rfl)) (hd : (x == ("__debug__" : Str)) = false := by decide)
    (hcd : (x == ("__classdict__" : Str)) = false := by decide)
    (hbase : attributeBase (.Name x py) name X.env (eval (.Name x py) X.env) = eval (.Name x py) X.env := by rfl) (hline : (apos.endLine == cpos.line) = true := by rfl) :
    IE X W (.Call (.Attribute (.Name x py) name apos) [] [] cpos) (eMut i f aN) := ⟨_, (show PE X _ (tBM X.K "list" r (tVar i) tNil) from pe_bm0 pa slot hty hm (pe_var hN hv hd hcd) hbase hline), ev_mut L ea_nil⟩
theorem ie_mutP1 {i : Nat} {ps : List PI} (pa : PlainAttrs "list") (slot : Slot "list" name id) (hty : typeOf (.builtin id) = pure (.type "method_descriptor")) (hm : MtR X id r) (L : LOp X.K r f) (ho : PP X i o ps) (ha : IA X W (e :: es) ms)
    (hbase : attributeBase o name X.env (eval o X.env) = eval o X.env := by rfl)
    (hfew : ((backTo cpos (starEach (e :: es) X.env)).all (fun x => !x.1) && (backToKw cpos (keywordEach [] X.env)).all (fun x => x.1.isSome)
      && decide ((e :: es).length + ([] : List Keyword).length + (if ([] : List Keyword).isEmpty then 0 else 1) < 30)) = true := by rfl)
    (hline : (apos.endLine == cpos.line) = true := by rfl) (hs : starEach (e :: es) X.env = (false, eval e X.env) :: starEach es X.env := by rfl) (hplain : (backTo cpos (starEach es X.env)).any (·.1) = false := by rfl) :
    IE X W (.Call (.Attribute o name apos) (e :: es) [] cpos) (eMutP i ps f ms) := let ⟨_, h1, h2⟩ := ha; ⟨_, pe_bm pa slot hty hm ho h1 hbase hfew hline hs hplain, ev_mutP L h2⟩
theorem ie_mutP0 {i : Nat} {ps : List PI} (pa : PlainAttrs "list") (slot : Slot "list" name id) (hty : typeOf (.builtin id) = pure (.type "method_descriptor")) (hm : MtR X id r) (L : LOp X.K r f) (ho : PP X i o ps)
    (hbase : attributeBase o name X.env (eval o X.env) = eval o X.env := by rfl) (hline : (apos.endLine == cpos.line) = true := by rfl) :
    IE X W (.Call (.Attribute o name apos) [] [] cpos) (eMutP i ps f aN) := ⟨_, (show PE X _ (tBM X.K "list" r (tP X.K (tVar i) ps) tNil) from pe_bm0 pa slot hty hm ho hbase hline), ev_mutP L ea_nil⟩
end
end
/-! ### reckoning -/
section
variable {env : Env} {d c : D} {i j : Nat} {js : List Nat} {ds : List D} {p : PI} {ps : List PI}
@[simp] theorem eP_app : eP i ps env = (match env[i]? with
  | none => .no
  | some c => match res env c ps with
    | none => .no
    | some js => match getN c js with
      | none => .no
      | some d => if isDead d then .no else if own d then (match putN c js d, putN c js (sh d) with
        | some _, some c2 => .ok (sh d, env.set i c2)
        | _, _ => .no) else .ok (d, env)) := rfl
@[simp] theorem idx1_ix {n : Nat} {k : Int} : idx1 env n (.ix k) = L2.ixN n k := rfl
@[simp] theorem idx1_sl {n : Nat} : idx1 env n (.sl j) = (match env[j]? with | some (.int i) => L2.ixN n i | _ => none) := rfl
@[simp] theorem res_nil : res env d [] = some [] := rfl
@[simp] theorem res_cons : res env d (p :: ps) = (match itD d with
    | none => none
    | some ds => match idx1 env ds.length p with
      | none => none
      | some j => match ds[j]? with
        | none => none
        | some c => match res env c ps with
          | none => none
          | some js => some (j :: js)) := rfl
@[simp] theorem getN_nil : getN d [] = some d := by cases d <;> rfl
@[simp] theorem getN_cons : getN d (j :: js) = (match itD d with
    | none => none
    | some ds => match ds[j]? with
      | none => none
      | some c => getN c js) := by cases d <;> rfl
@[simp] theorem putN_nil {x : D} : putN d [] x = some x := by cases d <;> rfl
@[simp] theorem putN_tup {x : D} : putN (.tup ds) (j :: js) x = (match ds[j]? with
    | none => none
    | some c => match putN c js x with
      | none => none
      | some c' => some (.tup (ds.set j c'))) := rfl
@[simp] theorem putN_lst {x : D} : putN (.lst true ds) (j :: js) x = (match ds[j]? with
    | none => none
    | some c => match putN c js x with
      | none => none
      | some c' => some (.lst true (ds.set j c'))) := rfl
@[simp] theorem eMut_app {f : List D → List D → Option (List D × D)} {ms : Arg} : eMut i f ms env = if isLst env i then (match ms env with
  | .no => .no
  | .ex x e => .ex x e
  | .ok p => match p.2[i]? with
    | some (.lst true ds) => (match f ds p.1 with
      | some q => .ok (q.2, p.2.set i (.lst true q.1))
      | none => .no)
    | _ => .no) else .no := rfl
@[simp] theorem eMutP_app {f : List D → List D → Option (List D × D)} {ms : Arg} : eMutP i ps f ms env = (match env[i]? with
  | none => .no
  | some c => match res env c ps with
    | none => .no
    | some js => match getN c js with
      | some (.lst true ds) => (match putN c js (.lst true ds) with
        | none => .no
        | some _ => match ms (env.set i .dead) with
          | .ok p => (match f ds p.1 with
            | none => .no
            | some q => match putN c js (.lst true q.1) with
              | none => .no
              | some c2 => .ok (q.2, p.2.set i c2))
          | _ => .no)
      | _ => .no) := rfl
@[simp] theorem sSetP_app {me : Exp} : sSetP i ps p me env = (match me env with
  | .no => .no
  | .ex x e => .ex x e
  | .ok q => match q.2[i]? with
    | none => .no
    | some c => match res q.2 c ps with
      | none => .no
      | some js => match getN c js with
        | some (.lst true ds) => (match putN c js (.lst true ds), idx1 q.2 ds.length p with
          | some _, some j => (match putN c js (.lst true (ds.set j q.1)) with
            | some c2 => .nx (q.2.set i c2)
            | none => .no)
          | _, _ => .no)
        | _ => .no) := rfl
@[simp] theorem fAppend_app : fAppend ds [d] = if ds.length < 100000 then some (ds ++ [d], .non) else none := rfl
@[simp] theorem fClear_app : fClear ds [] = some ([], .non) := rfl
@[simp] theorem fPop_app : fPop ds [] = (match ds.getLast? with | some d => some (ds.dropLast, d) | none => none) := rfl
@[simp] theorem fExtend_app {o : Bool} {es : List D} : fExtend ds [.lst o es] = if ds.length + es.length ≤ 100000 then some (ds ++ es, .non) else none := rfl
@[simp] theorem fInsert_app {k : Int} : fInsert ds [.int k, d] = if 0 ≤ k ∧ k ≤ 100000 ∧ ds.length < 100000 then some (ds.take k.toNat ++ [d] ++ ds.drop k.toNat, .non) else none := rfl
@[simp] theorem fReverse_app : fReverse ds [] = some (ds.reverse, .non) := rfl
@[simp] theorem shF_nil {L : List Nat} {k : Nat} : shF L k [] = [] := rfl
@[simp] theorem shF_cons {L : List Nat} {k : Nat} : shF L k (d :: env) = (if L.contains k then sh d else d) :: shF L (k + 1) env := rfl
@[simp] theorem backF_nil {L Q : List Nat} {k : Nat} : backF L Q k [] [] = [] := rfl
@[simp] theorem backF_cons {L Q : List Nat} {k : Nat} {old new : Env} : backF L Q k (c :: old) (d :: new) = (if clean d then d else if Q.contains k && (L.contains k || !own c) then c else .dead) :: backF L Q (k + 1) old new := rfl
@[simp] theorem sBor_app {L Q : List Nat} {s : Stm} : sBor L Q s env = (match s (shF L 0 env) with
  | .nx e => if e.length = env.length then .nx (backF L Q 0 env e) else .no
  | .rt d e => .rt d e
  | .ex x e => .ex x e
  | _ => .no) := rfl
end
end Fl

/-! Fl: sorted(dict(rows).items()) of rows whose keys are ints. -/
namespace Fl
open PySem PySem.Spec PyProof.Rows L2 PySem.W

def IntRow (h : Heap) (v : Value) (x : Int) (u : Value) : Prop := ∃ a t, v = .ref a ∧ IsTup h a #[.int x t, u]
def inOf : Option Value → Int
  | some (.int x _) => x
  | _ => 0
def rowK (h : Heap) (v : Value) : Int := inOf (DT.seqAt0 h (DT.refOf (some v)))
theorem IntRow.key {h : Heap} {v : Value} {x : Int} {u : Value} (r : IntRow h v x u) : rowK h v = x := by
  obtain ⟨a, t, rfl, h1⟩ := r
  show inOf (DT.seqAt0 h a) = x
  rw [DT.seqAt0_of h1]
  rfl
theorem isTup_two {h : Heap} {a : Addr} {i j : Array Value} (x : IsTup h a i) (y : IsTup h a j) : i = j := by
  obtain ⟨o, h1, _, n, h2⟩ := x
  obtain ⟨o', h1', _, n', h2'⟩ := y
  rw [h1] at h1'; cases h1'
  rw [h2] at h2'; cases h2'; rfl
section
variable {prog : Program} {w : World} {A : Around} {E : Value → Shared → Prop} {s : Shared}
theorem firsts_ir {h : Heap} : ∀ vs : List Value, (∀ v ∈ vs, ∃ y u, IntRow h v y u) → ∃ fs : List Value, KatTups h vs fs ∧ fs.length = vs.length ∧ ∀ f ∈ fs, ∃ x t, f = Value.int x t
  | [], _ => ⟨[], KatTups.nil, rfl, fun f hf => by simp at hf⟩
  | v :: vs, x => by
    obtain ⟨fs, k, hl, hi⟩ := firsts_ir vs fun u hu => x u (List.mem_cons_of_mem _ hu)
    obtain ⟨y, u, a, t, rfl, o, ho, hc, n, hd⟩ := x v (List.mem_cons_self ..)
    refine ⟨.int y t :: fs, KatTups.cons ho hc hd rfl k, by rw [List.length_cons, List.length_cons, hl], fun f hf => ?_⟩
    rcases List.mem_cons.mp hf with rfl | hf
    · exact ⟨y, t, rfl⟩
    · exact hi f hf
theorem kind_ir {vs : List Value} (h0 : 0 < vs.length) (x : ∀ v ∈ vs, ∃ y u, IntRow s.heap v y u) (dd : ∀ v ∈ vs, ∀ v' ∈ vs, rowK s.heap v = rowK s.heap v' → v = v')
    (Q : SortKind → Shared → Prop) (h : ∀ κ, TS.Cmp prog w A s κ (pairsOf vs) (rowK s.heap) → Q κ s) : wpAny (model prog w) A (keyKind' vs.toArray) Q E s := by
  obtain ⟨fs, k, hl, hi⟩ := firsts_ir vs x
  refine kat_kind (T := Value.type "int") k (by omega) (fun f hf => ?_) rfl (h _ ?_)
  · obtain ⟨x, t, rfl⟩ := hi f hf
    exact PySem.W.Looks.now
  · have hb : (Value.type "int" != Value.type "tuple") = true := by first | decide +kernel | rfl | decide | simp
    rw [hb]
    intro p q hp hq Q' E' hQ
    rw [pairsOf_toList] at hp hq
    have mp := (mem_zip_self hp).2
    have mq := (mem_zip_self hq).2
    obtain ⟨y, u, py⟩ := x _ mp
    obtain ⟨z, u', pz⟩ := x _ mq
    have hd := dd _ mp _ mq
    rw [py.key, pz.key] at hQ hd
    obtain ⟨a, t, e1, r1⟩ := py
    obtain ⟨a', t', e2, r2⟩ := pz
    rw [e1, e2] at hd ⊢
    obtain ⟨o, ho, hc, n, hdt⟩ := id r1
    obtain ⟨o', ho', hc', n', hdt'⟩ := id r2
    refine kat_lt ho hdt ho' hdt' ?_
    show KatLex prog w A true (decide (2 < 2)) Q' [(.int y t, .int z t'), (u, u')] 0 s
    refine kat_cons (SeqAt.EqAt.int_int y t z t' prog w _ _ ?_)
    refine kat_go (fun e => ?_) (fun e => ?_)
    · have ex : y = z := by simpa using e
      have ea := hd ex
      have e3 : a = a' := by injection ea
      subst e3
      have e4 := isTup_two r1 r2
      have e5 : u = u' := by simp at e4; exact e4.2
      subst e5
      have irr : decide (y < z) = false := by rw [ex]; exact decide_eq_false (Int.lt_irrefl _)
      rw [irr] at hQ
      refine kat_yes (kat_cons (SeqAt.EqAt.same u prog w _ _ ?_))
      exact kat_go (fun _ => kat_yes (kat_nil hQ)) (fun e => by cases e)
    · exact kat_no (oneLt_int hQ)
end

theorem pairs_get {prog : Program} {w : World} {κ : Type} [DecidableEq κ] {knd : PySem.KeyKind prog w κ} : ∀ {es : List DictEntry} {vs : List (κ × Value)} {j : Nat} {e : DictEntry}, Pairs knd es vs → es[j]? = some e → ∃ kv, vs[j]? = some kv ∧ knd.is kv.1 e.key = true ∧ e.val = kv.2
  | _, _, j, e, .nil, h => by simp at h
  | _, _, 0, e, .cons (kv := kv) h1 h2 _, h => by simp at h; subst h; exact ⟨kv, rfl, h1, h2⟩
  | _, _, j + 1, e, .cons _ _ t, h => by
    simp only [List.getElem?_cons_succ] at h
    obtain ⟨kv, e1, e2⟩ := pairs_get (j := j) t h
    exact ⟨kv, by rw [List.getElem?_cons_succ]; exact e1, e2⟩
section
variable {X : Cx}
def rItemsK : V → List V → Hp → VK → Prop := fun x xs H Q => ∃ (a : Addr) (kvs : List (Key × V)), x = .ref a ∧ xs = [] ∧ H a = some (.dK kvs) ∧ ∀ p, H p = none → Q (.ref p) (upd H p (DX.itemsO p a))
theorem mt_itemsK : MtR X "dict.items" rItemsK := by
  intro pins s σ H x xs v us Q I rx rxs h
  obtain ⟨a, kvs, rfl, rfl, ha, q⟩ := h
  cases rx
  cases rxs
  obtain ⟨z, hd, vs, rel, o, es, ep, ho, hx, hdat, _⟩ := dk_of I.hok ha
  refine DT.callItems (es := es) (ep := ep) hd ⟨o, ho, hx, hdat⟩ ?_
  have hf : H s.heap.objs.size = none := I.hok.fresh (Nat.le_refl _)
  exact ⟨.ref s.heap.objs.size, upd H s.heap.objs.size (DX.itemsO s.heap.objs.size a), I.laid (t' := s.toks) (fun b u e => Heap.get?_push_of_some _ e) (Nat.le_refl _) (DX.itemsO_ok (Heap.get?_push_size _ rfl)), rfl, q _ hf⟩
abbrev entI (e : Int × V) : Key × V := (.inl e.1, e.2)
def rSortK : List V → Hp → VK → Prop := fun vs H Q => ∃ (p a : Addr) (ks : List (Int × V)), vs = [.ref p] ∧ H p = some (DX.itemsO p a) ∧ H a = some (.dK (ks.map entI)) ∧ ks.length < 64 ∧
  ∀ (H' : Hp) (l : Addr) (ps : List (Addr × Int × V)), (∀ b o, H b = some o → H' b = some o) → (ps.map (·.2)).Perm ks → (ps.map (·.2)).Pairwise (fun e f => e.1 ≤ f.1) → H l = none → H' l = some (.lst (ps.map fun z => V.ref z.1)) →
    (∀ z ∈ ps, H z.1 = none ∧ H' z.1 = some (.tup [.int z.2.1, z.2.2])) → Q (.ref l) H'
theorem cr_sortedK (hc : X.calm = true) : CallR X (.builtin "sorted") rSortK := by
  intro pins s σ H xs us Q I r h
  obtain ⟨p, a, ks, rfl, hp, ha, h64, q⟩ := h
  obtain rfl := Vals.ref1 r
  have view : s.heap.IsItemsView p a := (show ObjOk X.prog X.w H s.heap p (DX.itemsO p a) from I.hok p _ hp).1
  obtain ⟨z, hd, vs, rel, o, es, ep, ho, hx, hdat, hkeys, hpairs, hn⟩ := dk_of I.hok ha
  have l1 : (ks.map entI).length = vs.length := Paired.length rel
  rw [List.length_map] at l1
  have l2 : es.size = vs.length := by rw [← Array.length_toList]; exact hpairs.length
  have hh : X.A.handled = none := I.ok.hd hc
  have hkn : (ks.map (·.1)).Nodup := by
    have e : vs.map (·.1) = ks.map (fun e => (Sum.inl e.1 : Key)) := by
      have rel' := rel
      unfold KV at rel'
      have g : ∀ {l : List (Int × V)} {m : List (Key × Value)}, Paired (fun (p : Key × V) (q : Key × Value) => p.1 = q.1 ∧ RelV p.2 q.2) (l.map entI) m → m.map (·.1) = l.map (fun e => (Sum.inl e.1 : Key)) := by
        intro l
        induction l with
        | nil => intro m x; cases x; rfl
        | cons b l ih => intro m x; cases x with
          | cons h t => simp only [List.map_cons, ih t]; rw [← h.1]
      exact g rel'
    rw [e] at hn
    have e2 : ks.map (fun e => (Sum.inl e.1 : Key)) = (ks.map (·.1)).map Sum.inl := by rw [List.map_map]; rfl
    rw [e2] at hn
    exact List.Pairwise.of_map Sum.inl (fun a b h e => h (by rw [e])) hn
  refine DT.sortedI (es := es) (ep := ep) hh view ⟨o, ho, hx, hdat⟩ (by rw [sizeLine_eq]; omega) fun h' tk as hk hlt hl hG => ?_
  have lak : as.length = ks.length := by omega
  have nd : as.Nodup := List.Pairwise.imp (fun h => Nat.ne_of_lt h) hG.rise
  -- the pairs that were made
  have pr : ∀ (j : Nat) (b : Addr), as[j]? = some b → ∃ (e : Int × V) (t : Tok) (u : Value), ks[j]? = some e ∧ RelV e.2 u ∧ h'.get? b = some { cls := .type "tuple", data := .seq #[Value.int e.1 t, u] } := by
    intro j b hj
    obtain ⟨en, he, hg⟩ := hG.pairs j b hj
    rw [← Array.getElem?_toList] at he
    obtain ⟨kv, hkv, k1, k2⟩ := pairs_get hpairs he
    obtain ⟨e0, he0, r1, r2⟩ := DX.pget rel hkv
    rw [List.getElem?_map] at he0
    cases hkj : ks[j]? with
    | none =>
      rw [hkj] at he0
      exact nomatch (show (none : Option (Key × V)) = some e0 from he0)
    | some e =>
      rw [hkj] at he0
      have ee : entI e = e0 := Option.some.inj he0
      rw [← ee] at r1 r2
      have k1' : keyIs kv.1 en.key = true := k1
      rw [← r1] at k1'
      rcases keyIs_shape k1' with ⟨i, t, ek, ev⟩ | ⟨x, t, ek, ev⟩
      · have e9 : e.1 = i := by injection ek
        exact ⟨e, t, kv.2, rfl, r2, by rw [hg, ev, k2, e9]⟩
      · cases ek
  -- the heap of the sort
  have hob : (h'.push { cls := .type "list", data := .seq (as.map Value.ref).toArray }).get? h'.objs.size = some (seqObj "list" (as.map Value.ref).toArray 0) := Heap.get?_push_size _ rfl
  have kb : ∀ b o, s.heap.get? b = some o → (h'.push { cls := .type "list", data := .seq (as.map Value.ref).toArray }).get? b = some o := fun b o e => Heap.get?_push_of_some _ (hk b o e)
  have ne0 : ∀ b o, h'.get? b = some o → b ≠ h'.objs.size := fun b o e => Nat.ne_of_lt (Heap.lt_size e)
  generalize hh2 : h'.push { cls := .type "list", data := .seq (as.map Value.ref).toArray } = h2 at hob kb ⊢
  have ka : ∀ b o, h'.get? b = some o → h2.get? b = some o := fun b o e => by rw [← hh2]; exact Heap.get?_push_of_some _ e
  have pin : ∀ (j : Nat) (b : Addr), as[j]? = some b → ∃ (e : Int × V) (u : Value), ks[j]? = some e ∧ IntRow (TS.midHeap h2 h'.objs.size (as.map Value.ref)) (.ref b) e.1 u := by
    intro j b hj
    obtain ⟨e, t, u, he, _, hg⟩ := pr j b hj
    exact ⟨e, u, he, b, t, rfl, ⟨_, TS.midHeap_old (ne0 _ _ hg) (ka _ _ hg), rfl, 0, rfl⟩⟩
  have tx : ∀ (j : Nat) (b : Addr) (e : Int × V), as[j]? = some b → ks[j]? = some e → rowK (TS.midHeap h2 h'.objs.size (as.map Value.ref)) (.ref b) = e.1 := by
    intro j b e hj he
    obtain ⟨e', u, he', hp'⟩ := pin j b hj
    have ee : e' = e := Option.some.inj (he'.symm.trans he)
    rw [← ee]
    exact hp'.key
  have at_ : ∀ v ∈ as.map Value.ref, ∃ (j : Nat) (b : Addr) (e : Int × V), v = .ref b ∧ as[j]? = some b ∧ ks[j]? = some e := by
    intro v hv'
    obtain ⟨b, hb, rfl⟩ := List.mem_map.mp hv'
    obtain ⟨j, hj⟩ := List.mem_iff_getElem?.mp hb
    obtain ⟨e, _, _, he, _⟩ := pr j b hj
    exact ⟨j, b, e, rfl, hj, he⟩
  refine wpAny_call_entry PyProof.Rows.slot_list_sort ⟨_, hob, rfl⟩ PyProof.Rows.entry_list_sort
    (SK.plain_sort (s := { s with heap := h2, toks := tk }) (r := rowK (TS.midHeap h2 h'.objs.size (as.map Value.ref))) hob (by rw [List.length_map]; omega) (fun h2' Qk hQk => ?_) fun ps out o1 o2 o3 => ⟨.none, rfl, ?_⟩) (PyProof.Rows.args_list_sort _)
  · refine kind_ir (s := { s with heap := TS.midHeap h2 h'.objs.size (as.map Value.ref), toks := tk }) (by omega) (fun v hv' => ?_) (fun v hv' u hu' e => ?_) Qk hQk
    · obtain ⟨j, b, e, rfl, hj, he⟩ := at_ v hv'
      obtain ⟨e', u, _, hp'⟩ := pin j b hj
      exact ⟨e'.1, u, hp'⟩
    · obtain ⟨j, b, e1, rfl, hj, he⟩ := at_ v hv'
      obtain ⟨j2, b2, e2, rfl, hj2, he2⟩ := at_ u hu'
      have e' : rowK (TS.midHeap h2 h'.objs.size (as.map Value.ref)) (.ref b) = rowK (TS.midHeap h2 h'.objs.size (as.map Value.ref)) (.ref b2) := e
      rw [tx j b e1 hj he, tx j2 b2 e2 hj2 he2] at e'
      have f1 : (ks.map (·.1))[j]? = some e1.1 := by rw [List.getElem?_map, he]; rfl
      have f2 : (ks.map (·.1))[j2]? = some e2.1 := by rw [List.getElem?_map, he2]; rfl
      have ej : j = j2 := (List.getElem?_inj (List.getElem?_eq_some_iff.mp f1).1 hkn).mp (by rw [f1, f2, e'])
      subst ej
      rw [hj] at hj2
      cases hj2
      rfl
  · show EP X pins σ Q (.ref h'.objs.size) { s with heap := sortedHeap h2 h'.objs.size (as.map Value.ref) out, toks := tk }
    obtain ⟨zs, pz, ez⟩ := perm_lift (fun z : Addr × Int × V => (Value.ref z.1, Value.ref z.1)) o2 (as.zip ks) (DX.zip_self Value.ref as ks lak)
    have idx : ∀ z ∈ zs, ∃ j : Nat, as[j]? = some z.1 ∧ ks[j]? = some z.2 := by
      intro z' hz'
      obtain ⟨j, hj⟩ := List.mem_iff_getElem?.mp (pz.mem_iff.mp hz')
      exact ⟨j, List.getElem?_zip_eq_some.mp hj⟩
    have hout : out.toList = zs.map fun z => Value.ref z.1 := by
      rw [o1, ← ez, List.map_map]
      all_goals rfl
    have hperm : (zs.map (·.2)).Perm ks := by
      have e := pz.map (·.2)
      have m2 : (as.zip ks).map (·.2) = ks := List.map_snd_zip (by rw [lak]; exact Nat.le_refl _)
      rw [m2] at e
      exact e
    have hsort : (zs.map (·.2)).Pairwise (fun e f => e.1 ≤ f.1) := by
      rw [← ez, List.pairwise_map] at o3
      rw [List.pairwise_map]
      refine List.Pairwise.imp_of_mem (fun {x y} hx hy h => ?_) o3
      obtain ⟨j, j1, j2⟩ := idx x hx
      obtain ⟨i, i1, i2⟩ := idx y hy
      have h' : rowK (TS.midHeap h2 h'.objs.size (as.map Value.ref)) (.ref x.1) ≤ rowK (TS.midHeap h2 h'.objs.size (as.map Value.ref)) (.ref y.1) := h
      rw [tx j _ _ j1 j2, tx i _ _ i1 i2] at h'
      exact h'
    -- behind the sort
    have kF : ∀ b o, b ≠ h'.objs.size → h2.get? b = some o → (sortedHeap h2 h'.objs.size (as.map Value.ref) out).get? b = some o := fun b o hb e => (PyProof.Rows.sortedHeap_old hb (Heap.lt_size e)).trans e
    have kS : ∀ b o, s.heap.get? b = some o → (sortedHeap h2 h'.objs.size (as.map Value.ref) out).get? b = some o := fun b o e => kF b o (ne0 _ _ (hk b o e)) (kb b o e)
    obtain ⟨eF, heF⟩ := PyProof.Rows.sortedHeap_at (vs := as.map Value.ref) (out := out) hob
    have I1 : Inv X pins σ H { s with heap := sortedHeap h2 h'.objs.size (as.map Value.ref) out, toks := tk } := I.kept (t' := tk) kS
    have hn0 : H h'.objs.size = none := I.hok.fresh (Nat.le_of_lt hlt)
    have hlen : (zs.map fun z => V.ref z.1).length ≤ sizeLine := by
      have e := hperm.length_eq
      rw [List.length_map] at e
      rw [List.length_map, sizeLine_eq]
      omega
    have rv : Vals (zs.map fun z => V.ref z.1) out.toList := by
      rw [hout]
      exact vals_maps (fun z : Addr × Int × V => V.ref z.1) (fun z => Value.ref z.1) zs fun _ _ => rfl
    have I2 : Inv X pins σ (upd H h'.objs.size (.lst (zs.map fun z => V.ref z.1))) { s with heap := sortedHeap h2 h'.objs.size (as.map Value.ref) out, toks := tk } :=
      I1.take (h' := sortedHeap h2 h'.objs.size (as.map Value.ref) out) (t' := tk) (fun b ob _ e => e) (I.fpOk (Nat.le_of_lt hlt) hn0) ⟨hlen, out.toList, eF, rv, heF⟩
    obtain ⟨H2, I3, g, qt⟩ := DX.takeT (P := fun b vs => ∃ (j : Nat) (e : Int × V), as[j]? = some b ∧ ks[j]? = some e ∧ vs = [.int e.1, e.2]) I as _ I2 nd fun b hb => by
      obtain ⟨j, hj⟩ := List.mem_iff_getElem?.mp hb
      obtain ⟨e, t, u, he, hu, hg⟩ := pr j b hj
      have hbl : s.heap.objs.size ≤ b := Nat.le_of_lt (hG.above b hb)
      refine ⟨hbl, ?_, [.int e.1, e.2], ⟨j, e, hj, he, rfl⟩, fun H3 => ⟨(by rw [sizeLine_eq]; show 2 ≤ 16777216; omega), [Value.int e.1 t, u], .cons ⟨t, rfl⟩ (.cons hu .nil), ⟨_, kF _ _ (ne0 _ _ hg) (ka _ _ hg), rfl, 0, rfl⟩⟩⟩
      rw [upd_ne (ne0 _ _ hg)]
      exact I.hok.fresh hbl
    have gr : ∀ b o, H b = some o → H2 b = some o := fun b o e => g b o (by rw [upd_ne (ne_of_none e hn0)]; exact e)
    refine ⟨.ref h'.objs.size, H2, I3, rfl, q H2 h'.objs.size zs gr hperm hsort hn0 (g _ _ upd_same) fun z' hz' => ?_⟩
    obtain ⟨i, i1, i2⟩ := idx z' hz'
    obtain ⟨vs, ⟨j, e, j1, j2, ev⟩, hH⟩ := qt z'.1 (List.mem_of_getElem? i1)
    have eij : i = j := (List.getElem?_inj (List.getElem?_eq_some_iff.mp i1).1 nd).mp (i1.trans j1.symm)
    subst eij
    have ee : e = z'.2 := Option.some.inj (j2.symm.trans i2)
    rw [ev, ee] at hH
    exact ⟨I.hok.fresh (Nat.le_of_lt (hG.above _ (List.mem_of_getElem? i1))), hH⟩
end

/-! ### rows as trees -/
section
variable {α β : Type}
def putG (l : List (Int × α)) (k : Int) (x : α) : List (Int × α) := if (l.any fun e => decide (e.1 = k)) = true then l.map (fun e => if e.1 = k then (e.1, x) else e) else l ++ [(k, x)]
def mergeG (l : List (Int × α)) : List (Int × α) := l.foldl (fun acc e => putG acc e.1 e.2) []
theorem putG_ent {l : List (Int × V)} {k : Int} {v : V} : putK (l.map entI) (.inl k) v = (putG l k v).map entI := by
  have e : ((l.map entI).any fun kv => decide (kv.1 = (Sum.inl k : Key))) = l.any fun e => decide (e.1 = k) := by
    rw [List.any_map]
    congr 1
    funext e
    simp
  unfold putK putG
  rw [e]
  by_cases h : (l.any fun e => decide (e.1 = k)) = true
  · rw [if_pos h, if_pos h, List.map_map, List.map_map]
    refine List.map_congr_left fun e _ => ?_
    by_cases h2 : e.1 = k
    · simp [h2]
    · simp [h2]
  · rw [if_neg h, if_neg h, List.map_append]
    rfl
theorem mergeG_ent : ∀ (l : List (Int × V)) (acc : List (Int × V)), mergeK (acc.map entI) (l.map entI) = (l.foldl (fun acc e => putG acc e.1 e.2) acc).map entI
  | [], acc => rfl
  | e :: l, acc => by
    show mergeK (putK (acc.map entI) (.inl e.1) e.2) (l.map entI) = _
    rw [putG_ent, mergeG_ent l]
    rfl
def Rw (F : α → β → Prop) : List (Int × α) → List (Int × β) → Prop := Paired fun e r => e.1 = r.1 ∧ F e.2 r.2
theorem Rw.any {F : α → β → Prop} {l : List (Int × α)} {m : List (Int × β)} (h : Rw F l m) (k : Int) : (l.any fun e => decide (e.1 = k)) = m.any fun e => decide (e.1 = k) := by
  unfold Rw at h
  induction h with
  | nil => rfl
  | cons h _ ih => rw [List.any_cons, List.any_cons, ih, h.1]
theorem Rw.map {F : α → β → Prop} {l : List (Int × α)} {m : List (Int × β)} (h : Rw F l m) {k : Int} {x : α} {y : β} (f : F x y) : Rw F (l.map fun e => if e.1 = k then (e.1, x) else e) (m.map fun e => if e.1 = k then (e.1, y) else e) := by
  unfold Rw at h ⊢
  induction h with
  | nil => exact .nil
  | @cons a b l m h _ ih =>
    rw [List.map_cons, List.map_cons]
    refine .cons ?_ ih
    by_cases e : a.1 = k
    · rw [if_pos e, if_pos (h.1 ▸ e)]; exact ⟨h.1, f⟩
    · rw [if_neg e, if_neg (h.1 ▸ e)]; exact h
theorem Rw.app {F : α → β → Prop} {l : List (Int × α)} {m : List (Int × β)} (h : Rw F l m) {k : Int} {x : α} {y : β} (f : F x y) : Rw F (l ++ [(k, x)]) (m ++ [(k, y)]) := by
  unfold Rw at h ⊢
  induction h with
  | nil => exact .cons ⟨rfl, f⟩ .nil
  | cons h _ ih => exact .cons h ih
theorem Rw.put {F : α → β → Prop} {l : List (Int × α)} {m : List (Int × β)} (h : Rw F l m) {k : Int} {x : α} {y : β} (f : F x y) : Rw F (putG l k x) (putG m k y) := by
  unfold putG
  rw [h.any k]
  by_cases e : (m.any fun e => decide (e.1 = k)) = true
  · rw [if_pos e, if_pos e]; exact h.map f
  · rw [if_neg e, if_neg e]; exact h.app f
theorem Rw.merge {F : α → β → Prop} {l : List (Int × α)} {m : List (Int × β)} (h : Rw F l m) : ∀ {a : List (Int × α)} {b : List (Int × β)}, Rw F a b → Rw F (l.foldl (fun acc e => putG acc e.1 e.2) a) (m.foldl (fun acc e => putG acc e.1 e.2) b) := by
  unfold Rw at h
  induction h with
  | nil => intro a b x; exact x
  | @cons e r l m h _ ih =>
    intro a b x
    rw [List.foldl_cons, List.foldl_cons, ← h.1]
    exact ih (x.put h.2)
theorem keys_put (l : List (Int × α)) (k : Int) (x : α) : (putG l k x).map (·.1) = if k ∈ l.map (·.1) then l.map (·.1) else l.map (·.1) ++ [k] := by
  unfold putG
  have e : (l.any fun e => decide (e.1 = k)) = decide (k ∈ l.map (·.1)) := by
    rw [Bool.eq_iff_iff]
    simp only [List.any_eq_true, decide_eq_true_eq, List.mem_map]
  rw [e]
  by_cases h : k ∈ l.map (·.1)
  · rw [if_pos h, if_pos (by simpa using h), List.map_map]
    refine List.map_congr_left fun e _ => ?_
    by_cases h2 : e.1 = k <;> simp [h2]
  · rw [if_neg h, if_neg (by simpa using h), List.map_append]; rfl
theorem nodup_put {l : List (Int × α)} {k : Int} {x : α} (h : (l.map (·.1)).Nodup) : ((putG l k x).map (·.1)).Nodup := by
  rw [keys_put]
  by_cases e : k ∈ l.map (·.1)
  · rw [if_pos e]; exact h
  · rw [if_neg e]
    refine List.nodup_append.mpr ⟨h, List.pairwise_singleton _ _, fun a ha b hb => ?_⟩
    rw [List.mem_singleton.mp hb]
    exact fun z => e (z ▸ ha)
theorem nodup_merge (l : List (Int × α)) : ∀ {a : List (Int × α)}, (a.map (·.1)).Nodup → ((l.foldl (fun acc e => putG acc e.1 e.2) a).map (·.1)).Nodup := by
  induction l with
  | nil => intro a h; exact h
  | cons e l ih => intro a h; exact ih (nodup_put h)
theorem len_put (l : List (Int × α)) (k : Int) (x : α) : (putG l k x).length ≤ l.length + 1 := by
  unfold putG
  split
  · rw [List.length_map]; omega
  · rw [List.length_append]; simp
theorem len_merge (l : List (Int × α)) : ∀ (a : List (Int × α)), (l.foldl (fun acc e => putG acc e.1 e.2) a).length ≤ a.length + l.length := by
  induction l with
  | nil => intro a; simp
  | cons e l ih =>
    intro a
    have h1 := ih (putG a e.1 e.2)
    have h2 := len_put a e.1 e.2
    rw [List.foldl_cons, List.length_cons]
    omega
theorem key_inj {l : List (Int × α)} (h : (l.map (·.1)).Nodup) {a b : Int × α} (ha : a ∈ l) (hb : b ∈ l) (e : a.1 = b.1) : a = b := by
  obtain ⟨i, hi⟩ := List.mem_iff_getElem?.mp ha
  obtain ⟨j, hj⟩ := List.mem_iff_getElem?.mp hb
  have f1 : (l.map (·.1))[i]? = some a.1 := by rw [List.getElem?_map, hi]; rfl
  have f2 : (l.map (·.1))[j]? = some b.1 := by rw [List.getElem?_map, hj]; rfl
  have ej : i = j := (List.getElem?_inj (List.getElem?_eq_some_iff.mp f1).1 h).mp (by rw [f1, f2, e])
  subst ej
  rw [hi] at hj
  exact Option.some.inj hj
def sortG (l : List (Int × α)) : List (Int × α) := l.mergeSort fun a b => decide (a.1 ≤ b.1)
theorem sortG_perm (l : List (Int × α)) : (sortG l).Perm l := List.mergeSort_perm _ _
theorem sortG_le (l : List (Int × α)) : (sortG l).Pairwise fun a b => a.1 ≤ b.1 :=
  (List.pairwise_mergeSort (le := fun a b : Int × α => decide (a.1 ≤ b.1)) (by intro a b c; simp; omega) (by intro a b; simp; omega) l).imp (by simp)
theorem sortG_uniq {l m : List (Int × α)} (hn : (l.map (·.1)).Nodup) (hp : m.Perm l) (hs : m.Pairwise fun a b => a.1 ≤ b.1) : m = sortG l :=
  (hp.trans (sortG_perm l).symm).eq_of_pairwise (fun a b ha hb p q => key_inj hn (hp.mem_iff.mp ha) ((sortG_perm l).mem_iff.mp hb) (Int.le_antisymm p q)) hs (sortG_le l)
end
def rowsD : List D → Option (List (Int × D))
  | [] => some []
  | .tup [.int k, x] :: ds => (rowsD ds).map ((k, x) :: ·)
  | _ => none
def rowD (e : Int × D) : D := .tup [.int e.1, e.2]
def gItems (c : D) : Option D := (lsD c).bind fun ds => (rowsD ds).bind fun rs => if rs.length < 64 then some (.lst true ((sortG (mergeG rs)).map rowD)) else none
section
variable {K : PySem.W.Frag} {Hs H Hs' H' : Hp}
theorem rowsD_cons {d : D} {ds : List D} {rs : List (Int × D)} (h : rowsD (d :: ds) = some rs) : ∃ k x rs', d = .tup [.int k, x] ∧ rowsD ds = some rs' ∧ rs = (k, x) :: rs' := by
  unfold rowsD at h
  split at h
  · rename_i e; cases e
  · rename_i k x ds' e
    obtain ⟨rfl, rfl⟩ := List.cons.inj e
    obtain ⟨rs', h1, h2⟩ := two_map h
    exact ⟨k, x, rs', rfl, h1, h2.symm⟩
  · cases h
theorem rl_rows (s : ∀ a o, Hs a = some o → H a = some o) : ∀ {ds : List D} {xs : List V} {rs : List (Int × D)}, RL K Hs H xs ds [] → rowsD ds = some rs →
    ∃ (ps : List Addr) (ks : List (Int × V)), xs = ps.map V.ref ∧ Paired (fun p kv => SqT K H p [kV kv.1, kv.2]) ps (ks.map entI) ∧ Rw (fun v d => RL K Hs H [v] [d] []) ks rs
  | [], xs, rs, r, h => by
    simp only [rowsD, Option.some.injEq] at h
    subst h
    cases r
    exact ⟨[], [], rfl, .nil, .nil⟩
  | d :: ds, xs, rs, r, h => by
    obtain ⟨k, x, rs', rfl, h2, rfl⟩ := rowsD_cons h
    obtain ⟨v, vs, rfl⟩ : ∃ v vs, xs = v :: vs := by
      have := r.length
      cases xs with
      | nil => simp at this
      | cons v vs => exact ⟨v, vs, rfl⟩
    obtain ⟨B, C, e, r1, r2⟩ := r.un
    obtain ⟨rfl, rfl⟩ := List.append_eq_nil_iff.mp e.symm
    obtain ⟨ps, ks, rfl, e2, e3⟩ := rl_rows s r2 h2
    obtain ⟨a, ys, rfl, h3, h4⟩ := r1.tup_inv
    obtain ⟨u, us, rfl⟩ : ∃ u us, ys = u :: us := by
      have := h4.length
      cases ys with
      | nil => simp at this
      | cons v vs => exact ⟨v, vs, rfl⟩
    obtain ⟨B, C, e, r1, r3⟩ := h4.un
    obtain ⟨rfl, rfl⟩ := List.append_eq_nil_iff.mp e.symm
    obtain ⟨v, rfl, r4⟩ := r3.one
    rw [r1.int] at h3
    exact ⟨a :: ps, (k, v) :: ks, rfl, .cons (ext_t s h3) e2, .cons ⟨rfl, r4⟩ e3⟩

def rSI (K : PySem.W.Frag) : List V → Hp → VK → Prop := fun xs H Q => (fun xs H Q => ∃ (a : Addr) (ps : List Addr) (kvs : List (Key × V)), xs = [.ref a] ∧ SqL K H a (ps.map V.ref) ∧ Paired (fun p kv => SqT K H p [kV kv.1, kv.2]) ps kvs ∧
    ∀ p, H p = none → Q (.ref p) (upd H p (.dK (mergeK [] kvs)))) xs H fun x H1 => tyV K "dict" x H1 ∧ rItemsK x [] H1 fun y H2 => rSortK [y] H2 Q
theorem rl_out {F : Int × V → Int × D → Prop} (hF : ∀ e r, F e r → e.1 = r.1 ∧ RL K Hs H [e.2] [r.2] []) : ∀ {ps : List (Addr × Int × V)} {l : List ((Int × V) × (Int × D))}, l.map (·.1) = ps.map (·.2) → (∀ q ∈ l, F q.1 q.2) → (∀ z ∈ ps, Hs z.1 = some (.tup [.int z.2.1, z.2.2])) →
    RL K Hs H (ps.map fun z => V.ref z.1) (l.map fun q => rowD q.2) []
  | [], [], _, _, _ => .nil
  | [], q :: l, e, _, _ => by simp at e
  | z :: ps, [], e, _, _ => by simp at e
  | z :: ps, q :: l, e, h1, h2 => by
    simp only [List.map_cons, List.cons.injEq] at e
    have ih := rl_out hF e.2 (fun q hq => h1 q (List.mem_cons_of_mem _ hq)) (fun z hz => h2 z (List.mem_cons_of_mem _ hz))
    obtain ⟨f1, f2⟩ := hF _ _ (h1 q (List.mem_cons_self ..))
    have hz := h2 z (List.mem_cons_self ..)
    rw [← e.1, f1] at hz
    have : RL K Hs H [V.int q.2.1, q.1.2] [.int q.2.1, q.2.2] [] := .sc rfl f2
    simpa [rowD] using RL.tup (A := []) (SqT.of hz) this ih
theorem none_upd {a p : Addr} {o : HO} (h : upd H p o a = none) : H a = none ∧ a ≠ p := by
  by_cases e : a = p
  · subst e; rw [upd_same] at h; cases h
  · rw [upd_ne e] at h; exact ⟨h, e⟩
theorem cg_items : CaG K (rSI K) gItems := by
  intro Hs H v c B C d r o h Q k
  obtain ⟨ds, h1, h2⟩ := two_bind (γ := Nat) h
  obtain ⟨rs, h3, h4⟩ := two_bind (γ := Nat) h2
  by_cases hz : rs.length < 64
  · rw [if_pos hz] at h4
    cases h4
    obtain ⟨a, xs, rfl, h5, h6⟩ := r.lsItems o.sub h1
    obtain ⟨ps, ks, rfl, e2, e3⟩ := rl_rows o.sub h6 h3
    refine ⟨a, ps, ks.map entI, rfl, h5, e2, fun p1 hp1 => ?_⟩
    have em : mergeK [] (ks.map entI) = (mergeG ks).map entI := mergeG_ent ks []
    rw [em]
    refine ⟨.inr (.inr (.inl ⟨rfl, .inl ⟨_, upd_same⟩⟩)), p1, _, rfl, rfl, upd_same, fun p2 hp2 => ?_⟩
    have n12 := none_upd hp2
    have hlen : (mergeG ks).length < 64 := by
      have := len_merge ks []
      have e : ks.length = rs.length := Paired.length e3
      simp only [List.length_nil] at this
      unfold mergeG
      omega
    refine ⟨p2, p1, mergeG ks, rfl, upd_same, (by rw [upd_ne (fun z => n12.2 z.symm), upd_same]), hlen, fun H' l zs keep perm srt hl hl' hzs => ?_⟩
    have kH : ∀ b x, H b = some x → H' b = some x := fun b x e => keep b x (by
      rw [upd_ne (ne_of_none e n12.1), upd_ne (ne_of_none e hp1)]; exact e)
    have hl0 : H l = none := (none_upd (none_upd hl).1).1
    have hz0 : ∀ z ∈ zs, H z.1 = none := fun z hz => (none_upd (none_upd (hzs z hz).1).1).1
    have RW : Rw (fun v d => RL K Hs H [v] [d] []) (mergeG ks) (mergeG rs) := e3.merge .nil
    have hlr : (mergeG ks).length = (mergeG rs).length := Paired.length RW
    obtain ⟨qs, pq, eq⟩ := perm_lift (fun q : (Int × V) × (Int × D) => q.1) perm ((mergeG ks).zip (mergeG rs)) (List.map_fst_zip (by omega))
    have hq : ∀ q ∈ qs, q.1.1 = q.2.1 ∧ RL K Hs H [q.1.2] [q.2.2] [] := by
      intro q hq
      obtain ⟨j, hj⟩ := List.mem_iff_getElem?.mp (pq.mem_iff.mp hq)
      obtain ⟨j1, j2⟩ := List.getElem?_zip_eq_some.mp hj
      obtain ⟨y, y1, y2⟩ := DX.pget RW j2
      rw [j1] at y1
      cases y1
      exact y2
    have hp2' : (qs.map (·.2)).Perm (mergeG rs) := by
      have e := pq.map (·.2)
      rw [List.map_snd_zip (by omega)] at e
      exact e
    have hs2 : (qs.map (·.2)).Pairwise fun a b => a.1 ≤ b.1 := by
      rw [← eq, List.pairwise_map] at srt
      rw [List.pairwise_map]
      refine List.Pairwise.imp_of_mem (fun {x y} hx hy h => ?_) srt
      rw [← (hq x hx).1, ← (hq y hy).1]
      exact h
    have es := sortG_uniq (nodup_merge rs (a := []) List.Pairwise.nil) hp2' hs2
    have ed : (sortG (mergeG rs)).map rowD = qs.map fun q => rowD q.2 := by
      have : sortG (mergeG rs) = qs.map (·.2) := es.symm
      rw [this, List.map_map]
      rfl
    rw [ed] at k
    let Hs' : Hp := fun b => if b ∈ zs.map (·.1) then H' b else Hs b
    have inn : ∀ b, b ∈ zs.map (·.1) → H b = none ∧ ∃ us, H' b = some (.tup us) := fun b hb => by
      obtain ⟨z, hz, rfl⟩ := List.mem_map.mp hb
      exact ⟨hz0 z hz, _, (hzs z hz).2⟩
    have hsS : ∀ b x, Hs b = some x → Hs' b = some x := fun b x e => by
      show (if b ∈ zs.map (·.1) then H' b else Hs b) = some x
      rw [if_neg (fun hb => by have := (inn b hb).1; rw [o.sub _ _ e] at this; cases this)]; exact e
    have hsO : ∀ b, H b ≠ none → Hs b = none → Hs' b = none := fun b e n => by
      show (if b ∈ zs.map (·.1) then H' b else Hs b) = none
      rw [if_neg (fun hb => e (inn b hb).1)]; exact n
    have Hl : Hs' l = none := by
      show (if l ∈ zs.map (·.1) then H' l else Hs l) = none
      rw [if_neg (fun hb => by obtain ⟨us, e⟩ := (inn l hb).2; rw [hl'] at e; cases e)]
      cases e : Hs l with
      | none => rfl
      | some x => rw [o.sub _ _ e] at hl0; cases hl0
    refine k (.ref l) Hs' H' [l] ?_ ⟨?_, ?_, ?_, ?_⟩ ⟨hsS, fun b x e _ => kH b x e, ?_, ?_⟩
    · have rr : RL K Hs' H' (zs.map fun z => V.ref z.1) (qs.map fun q => rowD q.2) [] := by
        refine rl_out (F := fun e r => e.1 = r.1 ∧ RL K Hs' H' [e.2] [r.2] []) (fun _ _ h => h) eq (fun q hq' => ⟨(hq q hq').1, (hq q hq').2.mono hsS fun a x c => by simp at c⟩) fun z hz => ?_
        show (if z.1 ∈ zs.map (·.1) then H' z.1 else Hs z.1) = _
        rw [if_pos (List.mem_map.mpr ⟨z, hz, rfl⟩)]
        exact (hzs z hz).2
      simpa using RL.lstO (A := []) hl' rr RL.nil
    · intro b x e
      have e' : (if b ∈ zs.map (·.1) then H' b else Hs b) = some x := e
      by_cases hb : b ∈ zs.map (·.1)
      · rw [if_pos hb] at e'; exact e'
      · rw [if_neg hb] at e'; exact kH b x (o.sub _ _ e')
    · intro b
      have h1 := o.nd b
      have h2 := o.has b
      by_cases e : b = l
      · subst e
        have : (B ++ C).count b = 0 := by
          apply Classical.byContradiction
          intro hc
          exact h2 (by omega) hl0
        rw [List.cons_append, List.nil_append, List.count_cons_self]
        omega
      · rw [List.cons_append, List.nil_append, List.count_cons_of_ne (fun z => e z.symm)]
        exact h1
    · intro b hb
      by_cases e : b = l
      · subst e; exact Hl
      · rw [List.cons_append, List.nil_append, List.count_cons_of_ne (fun z => e z.symm)] at hb
        exact hsO b (o.has b hb) (o.off b hb)
    · intro b hb
      by_cases e : b = l
      · subst e; rw [hl']; simp
      · rw [List.cons_append, List.nil_append, List.count_cons_of_ne (fun z => e z.symm)] at hb
        have := o.has b hb
        cases e : H b with
        | none => exact absurd e this
        | some x => rw [kH b x e]; simp
    · intro b x e n
      have e' : (if b ∈ zs.map (·.1) then H' b else Hs b) = some x := e
      by_cases hb : b ∈ zs.map (·.1)
      · exact .inr (inn b hb).1
      · rw [if_neg hb, n] at e'; cases e'
    · intro b hb
      have : b = l := by
        apply Classical.byContradiction
        intro z
        rw [List.count_cons_of_ne (fun y => z y.symm)] at hb
        simp at hb
      subst this
      exact .inr hl0
  · rw [if_neg hz] at h4; cases h4
theorem ie_items {X : Cx} {W : Wh} {a : Expr} {m : Exp} {p pd q1 q2 : Pos} {pos : Pos} (hc : X.calm = true) (hs : X.mg "sorted" = none) (hd : X.mg "dict" = none) (ha : IE X W a m) (hg : Gl X "sorted" := by rfl) (hgd : Gl X "dict" := by rfl)
    (he : starEach (a :: []) X.env = (false, eval a X.env) :: starEach [] X.env := by rfl) (hpl : (backTo q2 (starEach [] X.env)).any (·.1) = false := by rfl) (hpl2 : (backTo pos (starEach [] X.env)).any (·.1) = false := by rfl)
    {o : Expr} (ho : o = .Call (.Attribute (.Call (.Name "dict" pd) [a] [] q2) "items" q1) [] [] q2') (he2 : starEach (o :: []) X.env = (false, eval o X.env) :: starEach [] X.env := by rfl)
    (hbase : attributeBase (.Call (.Name "dict" pd) [a] [] q2) "items" X.env (eval (.Call (.Name "dict" pd) [a] [] q2) X.env) = eval (.Call (.Name "dict" pd) [a] [] q2) X.env := by rfl) (hline : (q1.endLine == q2'.line) = true := by rfl) :
    IE X W (.Call (.Name "sorted" p) [o] [] pos) (eG1 gItems m) := by
  subst ho
  obtain ⟨t, h1, h2⟩ := ha
  refine ⟨tCB (rSI X.K) (tCons t tNil), ?_, ev_g1 cg_items h2⟩
  exact (show PE X _ (tCB rSortK (tCons (tBM0 X.K "dict" rItemsK (tCB _ (tCons t tNil))) tNil)) from
    pe_callB (cr_sortedK hc) hg hs (by decide +kernel) (pa_cons (pe_bm0 PySem.F.plainAttrs_dict PySem.F.slot_dict_items PySem.F.type_dict_items mt_itemsK (pe_callTy (call_dictP hc) hgd hd (by decide +kernel) (pa_cons h1 pa_nil he) (by decide) (by decide) he hpl) hbase hline) pa_nil he2) (by decide) (by decide) he2 hpl2)
end
end Fl

/-! Fl: list(range(..)), for .. in reversed(range(..)). -/
namespace Fl
open PySem PySem.Spec PyProof.Rows L2
section
variable {K : PySem.W.Frag} {W : Wh} {σ σ' : L2.St} {env env' : Env} {F A A' B C : List Addr} {Hs H Hs' H' Hs0 : Hp} {t ta tb : TE} {m ma mb : Exp} {ms : Arg}
/-- a built-in of things that tells a new thing -/
def CaN (K : PySem.W.Frag) (r : List V → Hp → VK → Prop) (f : List D → Option D) : Prop := ∀ Hs H vs ds B C d, RL K Hs H vs ds B → Ok Hs H (B ++ C) → f ds = some d → ∀ Q : VK,
  (∀ v' Hs' H' B', RL K Hs' H' [v'] [d] B' → Ok Hs' H' (B' ++ (B ++ C)) → Go Hs H [] Hs' H' B' → Q v' H') → r vs H Q
theorem ev_bn {r : List V → Hp → VK → Prop} {f : List D → Option D} {ta : TA} (hr : CaN K r f) (e : EvA K W ta ms) : EvI K W (tCB r ta) (eB f ms) := by
  intro σ env F Hs H A rr o
  unfold eB
  cases h1 : ms env with
  | no => trivial
  | ex x e' => exact fun k Q => e.ex rr o h1 k _
  | ok p =>
    obtain ⟨ds, env1⟩ := p
    simp only [Res.bind_ok]
    cases h3 : f ds with
    | none => trivial
    | some d =>
      intro Q k
      refine e.ok rr o h1 fun vs Hs2 H2 B1 A2 rx r2 o2 g2 => ?_
      refine hr Hs2 H2 vs ds B1 (F ++ A2) d rx (o2.less fun a => by simp only [List.count_append]; omega) h3 Q fun v' Hs3 H3 B3 r3 o3 g3 => ?_
      refine k v' Hs3 H3 B3 A2 r3 (r2.mono g3.hs fun a o _ h => g3.keep a o h (by simp)) (o3.less fun a => by simp only [List.count_append]; omega) ?_
      have g4 : Go Hs2 H2 (B1 ++ A2) Hs3 H3 ((B1 ++ A2) ++ B3) := (g3.frame (F := B1 ++ A2)).more fun a c => by simpa using c
      exact (g2.trans g4).less fun a c => by simp only [List.count_append] at *; omega
def rLR1 : List V → Hp → VK → Prop := fun xs H Q => match xs with
  | [x] => ∃ n, x = .int n ∧ RgOk 0 n ∧ ∀ q, H q = none → Q (.ref q) (upd H q (.lst (rgV 0 n)))
  | _ => False
def rLR2 : List V → Hp → VK → Prop := fun xs H Q => match xs with
  | [x, y] => ∃ i j, x = .int i ∧ y = .int j ∧ RgOk i j ∧ ∀ q, H q = none → Q (.ref q) (upd H q (.lst (rgV i j)))
  | _ => False
def gLR1 : List D → Option D
  | [.int n] => if -1000000 ≤ n ∧ n ≤ 1000000 then some (.lst true (rangeD 0 n.toNat)) else none
  | _ => none
def gLR2 : List D → Option D
  | [.int a, .int b] => if -1000000 ≤ a ∧ a ≤ 1000000 ∧ -1000000 ≤ b ∧ b ≤ 1000000 then some (.lst true (rangeD a (b - a).toNat)) else none
  | _ => none
theorem rl_rg (a : Int) (n : Nat) : RL K Hs H ((List.range n).map fun i => V.int (a + (i : Nat))) (rangeD a n) [] := by
  unfold rangeD
  generalize List.range n = l
  induction l with
  | nil => exact .nil
  | cons x l ih => exact .sc rfl ih
theorem can_lr1 : CaN K rLR1 gLR1 := by
  intro Hs H vs ds B C d r o h Q k
  unfold gLR1 at h
  split at h
  · rename_i n
    split at h
    · rename_i hn
      cases h
      obtain ⟨v, rfl, rv⟩ := r.one
      refine ⟨n, rv.int, ⟨by omega, by omega, by omega, by omega, by omega⟩, ?_⟩
      have e : rgV 0 n = (List.range n.toNat).map fun i => V.int (0 + (i : Nat)) := by unfold rgV; rw [show n - 0 = n from by omega]
      rw [e]
      exact new_lst (rl_rg 0 n.toNat) o k
    · cases h
  · cases h
theorem can_lr2 : CaN K rLR2 gLR2 := by
  intro Hs H vs ds B C d r o h Q k
  unfold gLR2 at h
  split at h
  · rename_i i j
    split at h
    · rename_i hn
      cases h
      obtain ⟨v, w, B1, B2, rfl, rv, rw'⟩ := r.two
      refine ⟨i, j, rv.int, rw'.int, ⟨by omega, by omega, by omega, by omega, by omega⟩, ?_⟩
      exact new_lst (rl_rg i _) o k
    · cases h
  · cases h
def iRvR (ms : Arg) : Itm := fun env => (ms env).bind fun p => match p.1 with
  | [.int n] => if -1000000 ≤ n ∧ n ≤ 1000000 then .ok ((rangeD 0 n.toNat).reverse, p.2) else .no
  | _ => .no
theorem gives_revR (n : Nat) : Gives K (L2.Itc ((n : Int) - 1) (-1) n) (rangeD 0 n).reverse Hs0 := by
  refine ⟨fun _ => True, YFn fun i => .int ((n : Int) - 1 + i * (-1)), by rw [List.length_reverse, rangeD_len]; exact walk_rangeC, fun _ _ _ _ => trivial, fun i d Hs H x H' hd _ s y => ?_⟩
  obtain ⟨rfl, rfl⟩ := y
  refine ⟨Hs, Go.refl, s, .sc ?_ .nil⟩
  have hi : i < n := by
    have := (List.getElem?_eq_some_iff.mp hd).1
    rw [List.length_reverse, rangeD_len] at this
    exact this
  rw [List.getElem?_reverse (by rw [rangeD_len]; exact hi), rangeD_len] at hd
  unfold rangeD at hd
  rw [List.getElem?_map, List.getElem?_range (by omega)] at hd
  simp at hd
  subst hd
  simp [scD]
  omega
def qRvR (R : It → Hp → Prop) : List V → Hp → Prop := fun vs H1 => match vs with
  | [x] => ∃ n, x = V.int n ∧ -(2 ^ 62) ≤ (0 : Int) ∧ (0 : Int) < 2 ^ 62 ∧ -(2 ^ 62) ≤ n ∧ n < 2 ^ 62 ∧ R (Itc (0 + (((n - 0).toNat : Nat) : Int) - 1) (-1) (n - 0).toNat) H1
  | _ => False
theorem it_RvR {t : TE} (e : EvA K W (tCons t tNil) ms) : ItI K W (iRevR (tRg1 t)) (iRvR ms) := by
  intro σ env F Hs H A r o
  unfold iRvR
  cases h1 : ms env with
  | no => trivial
  | ex x e' => exact fun k R => (show tCons t tNil σ H (qRvR R) from e.ex r o h1 k _)
  | ok p =>
    obtain ⟨ds, env1⟩ := p
    simp only [Res.bind_ok]
    split
    · rename_i n
      split
      · rename_i hn
        intro R k
        exact (show tCons t tNil σ H (qRvR R) from e.ok r o h1 fun vs Hs2 H2 B2 A2 rv r2 o2 g2 => by
          obtain ⟨v, rfl, rv⟩ := rv.one
          refine ⟨n, rv.int, by omega, by omega, by omega, by omega, ?_⟩
          have e1 : (n - 0).toNat = n.toNat := by omega
          rw [e1, show (0 : Int) + ((n.toNat : Nat) : Int) - 1 = ((n.toNat : Nat) : Int) - 1 from by omega]
          exact k _ Hs2 H2 A2 (gives_revR n.toNat) r2 o2.un g2.un)
      · trivial
    · trivial
end
section
variable {X : Cx} {W : Wh} {a b tg : Expr} {m ma mb : Exp} {ms : Arg} {p q pos p2 : Pos}
theorem ie_lr1 (hc : X.calm = true) (hl : X.mg "list" = none) (hr : X.mg "range" = none) (ha : IE X W a m) (hg : Gl X "list" := by rfl) (hgr : Gl X "range" := by rfl) (na : starEach [a] X.env = (false, eval a X.env) :: starEach [] X.env := by rfl)
    (nb : starEach [.Call (.Name "range" q) [a] [] p2] X.env = (false, eval (.Call (.Name "range" q) [a] [] p2) X.env) :: starEach [] X.env := by rfl) : IE X W (.Call (.Name "list" p) [.Call (.Name "range" q) [a] [] p2] [] pos) (eB gLR1 (aC m aN)) := by
  obtain ⟨t, h1, h2⟩ := ha
  exact ⟨tCB rLR1 (tCons t tNil), (show PE X _ (tLstRg (tRg1 t)) from pe_listRg hc hg hl (prg_1 hgr hr h1 na) nb), ev_bn can_lr1 (ea_cons h2 ea_nil)⟩
theorem ie_lr2 (hc : X.calm = true) (hl : X.mg "list" = none) (hr : X.mg "range" = none) (ha : IE X W a ma) (hb : IE X W b mb) (hg : Gl X "list" := by rfl) (hgr : Gl X "range" := by rfl) (na : starEach [a, b] X.env = (false, eval a X.env) :: starEach [b] X.env := by rfl)
    (nb : starEach [b] X.env = (false, eval b X.env) :: starEach [] X.env := by rfl) (hp : (backTo p2 (starEach [b] X.env)).any (·.1) = false := by rfl)
    (nc : starEach [.Call (.Name "range" q) [a, b] [] p2] X.env = (false, eval (.Call (.Name "range" q) [a, b] [] p2) X.env) :: starEach [] X.env := by rfl) : IE X W (.Call (.Name "list" p) [.Call (.Name "range" q) [a, b] [] p2] [] pos) (eB gLR2 (aC ma (aC mb aN))) := by
  obtain ⟨t, h1, h2⟩ := ha
  obtain ⟨t2, h3, h4⟩ := hb
  exact ⟨tCB rLR2 (tCons t (tCons t2 tNil)), (show PE X _ (tLstRg (tRg2 t t2)) from pe_listRg hc hg hl (prg_2 hgr hr h1 h3 na nb hp) nc), ev_bn can_lr2 (ea_cons h2 (ea_cons h4 ea_nil))⟩
theorem ii_RvR (hl : X.mg "reversed" = none) (hr : X.mg "range" = none) (ha : IE X W a m) (hg : Gl X "reversed" := by rfl) (hgr : Gl X "range" := by rfl) (na : starEach [a] X.env = (false, eval a X.env) :: starEach [] X.env := by rfl)
    (nb : starEach [.Call (.Name "range" q) [a] [] p2] X.env = (false, eval (.Call (.Name "range" q) [a] [] p2) X.env) :: starEach [] X.env := by rfl) : II X W tg (.Call (.Name "reversed" p) [.Call (.Name "range" q) [a] [] p2] [] pos) (iRvR (aC m aN)) := by
  obtain ⟨t, h1, h2⟩ := ha
  exact ⟨_, pi_revR hg hl (prg_1 hgr hr h1 na) nb, it_RvR (ea_cons h2 ea_nil)⟩
end
/-! simp -/
section
variable {env : Env} {d : D} {n a b : Int}
@[simp] theorem gLR1_app : gLR1 [.int n] = if -1000000 ≤ n ∧ n ≤ 1000000 then some (.lst true (rangeD 0 n.toNat)) else none := rfl
@[simp] theorem gLR2_app : gLR2 [.int a, .int b] = if -1000000 ≤ a ∧ a ≤ 1000000 ∧ -1000000 ≤ b ∧ b ≤ 1000000 then some (.lst true (rangeD a (b - a).toNat)) else none := rfl
@[simp] theorem iRvR_app {ms : Arg} : iRvR ms env = (ms env).bind fun p => match p.1 with
  | [.int n] => if -1000000 ≤ n ∧ n ≤ 1000000 then .ok ((rangeD 0 n.toNat).reverse, p.2) else .no
  | _ => .no := rfl
@[simp] theorem rowsD_nil : rowsD [] = some [] := by simp [rowsD]
@[simp] theorem rowsD_con {k : Int} {x : D} {ds : List D} : rowsD (.tup [.int k, x] :: ds) = (rowsD ds).map ((k, x) :: ·) := by simp [rowsD]
@[simp] theorem gItems_lst {o : Bool} {ds : List D} : gItems (.lst o ds) = (rowsD ds).bind fun rs => if rs.length < 64 then some (.lst true ((sortG (mergeG rs)).map rowD)) else none := rfl
theorem rowsD_map : ∀ rs : List (Int × D), rowsD (rs.map rowD) = some rs
  | [] => rfl
  | r :: rs => by simp [rowD, rowsD_con, rowsD_map rs]
end
end Fl

/-! Fl: steps and turns of runs, as sums; when they can be done. -/
namespace Fl
open PySem
abbrev Deed := Side × Side
abbrev Step := Nat × Rat
def dd (ds : List Deed) (k : Nat) : Deed := ds.getD k ([], [])
/-- what a step changes -/
def stC (ds : List Deed) (x : Step) (j : Nat) : Rat := x.2 * chg (dd ds x.1) j
def sumC (ds : List Deed) : List Step → Nat → Rat
  | [], _ => 0
  | x :: l, j => stC ds x j + sumC ds l j
theorem sumC_app (ds : List Deed) (a b : List Step) (j : Nat) : sumC ds (a ++ b) j = sumC ds a j + sumC ds b j := by
  induction a with
  | nil => simp [sumC, Rat.zero_add]
  | cons x l ih => rw [List.cons_append, sumC, sumC, ih]; grind
/-- a step can be done -/
def canD (ds : List Deed) (x : Step) (f : Nat → Rat) : Prop := ∀ p ∈ (dd ds x.1).1, x.2 * p.2 ≤ f p.1
def canS (ds : List Deed) : List Step → (Nat → Rat) → Prop
  | [], _ => True
  | x :: l, f => canD ds x f ∧ canS ds l (fun j => f j + stC ds x j)
theorem canD_mono {ds : List Deed} {x : Step} {f g : Nat → Rat} (h : ∀ j, f j ≤ g j) (c : canD ds x f) : canD ds x g := fun p hp => by have := c p hp; have := h p.1; grind
theorem canS_mono {ds : List Deed} : ∀ {l : List Step} {f g : Nat → Rat}, (∀ j, f j ≤ g j) → canS ds l f → canS ds l g
  | [], _, _, _, _ => trivial
  | x :: l, f, g, h, c => ⟨canD_mono h c.1, canS_mono (fun j => by have := h j; grind) c.2⟩
theorem canS_app {ds : List Deed} : ∀ {a b : List Step} {f : Nat → Rat}, canS ds (a ++ b) f ↔ canS ds a f ∧ canS ds b (fun j => f j + sumC ds a j)
  | [], b, f => by simp [canS, sumC, Rat.add_zero]
  | x :: l, b, f => by
    rw [List.cons_append, canS, canS_app (a := l), canS, and_assoc]
    have : (fun j => f j + stC ds x j + sumC ds l j) = fun j => f j + sumC ds (x :: l) j := by funext j; rw [sumC]; grind
    rw [this]
def sclS (q : Rat) (l : List Step) : List Step := l.map fun x => (x.1, x.2 * q)
theorem sumC_scl (ds : List Deed) (q : Rat) (l : List Step) (j : Nat) : sumC ds (sclS q l) j = q * sumC ds l j := by
  induction l with
  | nil => simp [sclS, sumC]
  | cons x l ih =>
    have : sclS q (x :: l) = (x.1, x.2 * q) :: sclS q l := rfl
    rw [this, sumC, ih, sumC]
    unfold stC
    grind
theorem canS_scl {ds : List Deed} {q : Rat} (hq : 0 ≤ q) : ∀ {l : List Step} {f g : Nat → Rat}, (∀ j, g j = q * f j) → canS ds l f → canS ds (sclS q l) g
  | [], _, _, _, _ => trivial
  | x :: l, f, g, h, c => by
    refine ⟨fun p hp => ?_, canS_scl hq (f := fun j => f j + stC ds x j) (fun j => ?_) c.2⟩
    · have := c.1 p hp
      rw [h]
      have h2 := Rat.mul_le_mul_of_nonneg_left this hq
      show x.2 * q * p.2 ≤ _
      grind
    · rw [h]
      show q * f j + x.2 * q * chg _ j = _
      unfold stC
      grind

/-! ### a turn -/
/-- the first round in which less is held than wanted -/
def fl (held falls wanted : Rat) (R : Nat) : Option Nat :=
  if held < wanted then some 0 else if R = 1 ∨ 0 ≤ falls then none else
    if R ≤ ((held - wanted) / -falls).floor.toNat + 1 then none else some (((held - wanted) / -falls).floor.toNat + 1)
theorem floor_bounds (q : Rat) : (q.floor : Rat) ≤ q ∧ q < (q.floor : Rat) + 1 := ⟨Rat.floor_le q, by have := Rat.lt_floor (x := q); grind⟩
theorem nat_le_cast {a b : Nat} (h : a ≤ b) : (a : Rat) ≤ (b : Rat) := by exact_mod_cast h
theorem fl_spec {held falls wanted : Rat} {R : Nat} (hR : 0 < R) :
    (fl held falls wanted R = none → ∀ k, k < R → wanted ≤ held + (k : Rat) * falls) ∧ (∀ k, fl held falls wanted R = some k → k < R ∧ held + (k : Rat) * falls < wanted ∧ ∀ i, i < k → wanted ≤ held + (i : Rat) * falls) := by
  unfold fl
  by_cases h1 : held < wanted
  · rw [if_pos h1]
    refine ⟨fun h => by (cases h), fun k h => ?_⟩
    cases h
    refine ⟨hR, ?_, fun i hi => by omega⟩
    have : ((0 : Nat) : Rat) = 0 := rfl
    rw [this]; grind
  · rw [if_neg h1]
    by_cases h2 : R = 1 ∨ 0 ≤ falls
    · rw [if_pos h2]
      refine ⟨fun _ k hk => ?_, fun k h => by (cases h)⟩
      rcases h2 with h2 | h2
      · obtain rfl : k = 0 := by omega
        have : ((0 : Nat) : Rat) = 0 := rfl
        rw [this]; grind
      · have h3 : (0 : Rat) ≤ (k : Rat) := by exact_mod_cast Nat.zero_le k
        have := Rat.mul_nonneg h3 h2
        grind
    · rw [if_neg h2]
      have hf : 0 < -falls := by grind
      have q0 : 0 ≤ (held - wanted) / -falls := by
        have := Rat.mul_nonneg (a := held - wanted) (b := (-falls)⁻¹) (by grind) (by have := Rat.inv_pos.mpr hf; grind)
        rw [Rat.div_def]; exact this
      have hq : (held - wanted) / -falls * (-falls) = held - wanted := Rat.div_mul_cancel (by grind)
      obtain ⟨q, hqe⟩ : ∃ q, q = (held - wanted) / -falls := ⟨_, rfl⟩
      rw [← hqe] at q0 hq ⊢
      have fb := floor_bounds q
      have f0 : 0 ≤ q.floor := Rat.le_floor_iff.mpr (by exact_mod_cast q0)
      have fe : ((q.floor.toNat : Nat) : Rat) = (q.floor : Rat) := by
        have : ((q.floor.toNat : Nat) : Int) = q.floor := by omega
        have h := congrArg (fun z : Int => (z : Rat)) this
        exact h
      rw [← fe] at fb
      have low : ∀ k : Nat, k ≤ q.floor.toNat → wanted ≤ held + (k : Rat) * falls := fun k hk => by
        have h1 := nat_le_cast hk
        have h2 : (k : Rat) * (-falls) ≤ q * (-falls) := Rat.mul_le_mul_of_nonneg_right (by grind) (by grind)
        grind
      have high : held + ((q.floor.toNat + 1 : Nat) : Rat) * falls < wanted := by
        have h2 : q * (-falls) < ((q.floor.toNat : Nat) + 1 : Rat) * (-falls) := Rat.mul_lt_mul_of_pos_right fb.2 hf
        have : ((q.floor.toNat + 1 : Nat) : Rat) = ((q.floor.toNat : Nat) : Rat) + 1 := by push_cast; rfl
        rw [this]
        grind
      by_cases h3 : R ≤ q.floor.toNat + 1
      · rw [if_pos h3]
        exact ⟨fun _ k hk => low k (by omega), fun k h => by (cases h)⟩
      · rw [if_neg h3]
        refine ⟨fun h => by (cases h), fun k h => ?_⟩
        cases h
        exact ⟨by omega, high, fun i hi => low i (by omega)⟩
abbrev Lack := Option (Nat × Nat × Nat)
/-- the better of what was found and a lack -/
def better (found : Lack) (lap : Option Nat) (i p : Nat) : Lack := match lap with
  | none => found
  | some k => match found with
    | none => some (k, i, p)
    | some x => if k < x.1 then some (k, i, p) else found
/-- over what a step takes -/
def lackP (c : Nat → Rat) (q : Rat) (R i : Nat) (f : Nat → Rat) : Side → Lack → Lack
  | [], found => found
  | p :: s, found => lackP c q R i f s (better found (fl (f p.1) (c p.1) (q * p.2) R) i p.1)
def lackS (ds : List Deed) (c : Nat → Rat) (R : Nat) : List Step → Nat → (Nat → Rat) → Lack → Lack
  | [], _, _, found => found
  | x :: l, i, f, found => lackS ds c R l (i + 1) (fun j => f j + stC ds x j) (lackP c x.2 R i f (dd ds x.1).1 found)
def lackT (ds : List Deed) (R : Nat) (steps : List Step) (f : Nat → Rat) : Lack := lackS ds (sumC ds steps) R steps 0 f none
theorem better_none {found : Lack} {lap : Option Nat} {i p : Nat} : better found lap i p = none ↔ found = none ∧ lap = none := by
  unfold better
  cases lap with
  | none => simp
  | some k =>
    cases found with
    | none => simp
    | some x =>
      dsimp only
      split <;> simp
theorem lackP_none {c : Nat → Rat} {q : Rat} {R i : Nat} {f : Nat → Rat} (hR : 0 < R) : ∀ {s : Side} {found : Lack}, lackP c q R i f s found = none ↔ found = none ∧ ∀ p ∈ s, ∀ k, k < R → q * p.2 ≤ f p.1 + (k : Rat) * c p.1
  | [], found => by simp [lackP]
  | p :: s, found => by
    rw [lackP, lackP_none hR, better_none]
    have key : fl (f p.1) (c p.1) (q * p.2) R = none ↔ ∀ k, k < R → q * p.2 ≤ f p.1 + (k : Rat) * c p.1 := by
      obtain ⟨h1, h2⟩ := fl_spec (held := f p.1) (falls := c p.1) (wanted := q * p.2) hR
      refine ⟨h1, fun h => ?_⟩
      cases e : fl (f p.1) (c p.1) (q * p.2) R with
      | none => rfl
      | some k =>
        obtain ⟨a, b, _⟩ := h2 k e
        have := h k a
        grind
    rw [key]
    simp only [List.mem_cons, forall_eq_or_imp, and_assoc]
theorem lackS_none {ds : List Deed} {c : Nat → Rat} {R : Nat} (hR : 0 < R) : ∀ {l : List Step} {i : Nat} {f : Nat → Rat} {found : Lack}, lackS ds c R l i f found = none ↔ found = none ∧ ∀ k, k < R → canS ds l (fun j => f j + (k : Rat) * c j)
  | [], i, f, found => by simp [lackS, canS]
  | x :: l, i, f, found => by
    rw [lackS, lackS_none hR, lackP_none hR, and_assoc]
    refine and_congr_right fun _ => ?_
    constructor
    · rintro ⟨h1, h2⟩ k hk
      refine ⟨fun p hp => h1 p hp k hk, ?_⟩
      have := h2 k hk
      have e : (fun j => f j + stC ds x j + (k : Rat) * c j) = fun j => f j + (k : Rat) * c j + stC ds x j := by funext j; grind
      rwa [e] at this
    · intro h
      refine ⟨fun p hp k hk => (h k hk).1 p hp, fun k hk => ?_⟩
      have := (h k hk).2
      have e : (fun j => f j + stC ds x j + (k : Rat) * c j) = fun j => f j + (k : Rat) * c j + stC ds x j := by funext j; grind
      rwa [e]
/-- a turn can be done in all rounds -/
def canT (ds : List Deed) (R : Nat) (steps : List Step) (f : Nat → Rat) : Prop := ∀ k, k < R → canS ds steps (fun j => f j + (k : Rat) * sumC ds steps j)
theorem lackT_none {ds : List Deed} {R : Nat} {steps : List Step} {f : Nat → Rat} (hR : 0 < R) : lackT ds R steps f = none ↔ canT ds R steps f := by
  unfold lackT canT
  rw [lackS_none hR]
  simp
abbrev Turn := Nat × List Step
def turnC (ds : List Deed) (t : Turn) (j : Nat) : Rat := (t.1 : Rat) * sumC ds t.2 j
def runC (ds : List Deed) : List Turn → Nat → Rat
  | [], _ => 0
  | t :: r, j => turnC ds t j + runC ds r j
def canR (ds : List Deed) : List Turn → (Nat → Rat) → Prop
  | [], _ => True
  | t :: r, f => canT ds t.1 t.2 f ∧ canR ds r (fun j => f j + turnC ds t j)
theorem canT_one {ds : List Deed} {steps : List Step} {f : Nat → Rat} : canT ds 1 steps f ↔ canS ds steps f := by
  unfold canT
  constructor
  · intro h
    have := h 0 (by decide)
    have e : (fun j => f j + ((0 : Nat) : Rat) * sumC ds steps j) = f := by
      funext j
      have : ((0 : Nat) : Rat) = 0 := rfl
      rw [this]; grind
    rwa [e] at this
  · intro h k hk
    obtain rfl : k = 0 := by omega
    have e : (fun j => f j + ((0 : Nat) : Rat) * sumC ds steps j) = f := by
      funext j
      have : ((0 : Nat) : Rat) = 0 := rfl
      rw [this]; grind
    rwa [e]
theorem canR_app {ds : List Deed} : ∀ {a b : List Turn} {f : Nat → Rat}, canR ds (a ++ b) f ↔ canR ds a f ∧ canR ds b (fun j => f j + runC ds a j)
  | [], b, f => by simp [canR, runC, Rat.add_zero]
  | t :: r, b, f => by
    rw [List.cons_append, canR, canR_app (a := r), canR, and_assoc]
    have : (fun j => f j + turnC ds t j + runC ds r j) = fun j => f j + runC ds (t :: r) j := by funext j; rw [runC]; grind
    rw [this]
theorem runC_app (ds : List Deed) (a b : List Turn) (j : Nat) : runC ds (a ++ b) j = runC ds a j + runC ds b j := by
  induction a with
  | nil => simp [runC, Rat.zero_add]
  | cons x l ih => rw [List.cons_append, runC, runC, ih]; grind
/-- each step as a turn of one round -/
def ones (l : List Step) : List Turn := l.map fun x => (1, [x])
theorem runC_ones (ds : List Deed) (l : List Step) (j : Nat) : runC ds (ones l) j = sumC ds l j := by
  induction l with
  | nil => rfl
  | cons x l ih =>
    show turnC ds (1, [x]) j + runC ds (ones l) j = _
    rw [ih]
    unfold turnC
    have : ((1 : Nat) : Rat) = 1 := rfl
    rw [this, sumC, sumC, sumC]
    grind
theorem canR_ones {ds : List Deed} : ∀ {l : List Step} {f : Nat → Rat}, canR ds (ones l) f ↔ canS ds l f
  | [], f => by simp [ones, canR, canS]
  | x :: l, f => by
    show canT ds 1 [x] f ∧ canR ds (ones l) _ ↔ _
    rw [canT_one, canR_ones, canS, canS, canS]
    have : (fun j => f j + turnC ds (1, [x]) j) = fun j => f j + stC ds x j := by
      funext j
      unfold turnC
      have : ((1 : Nat) : Rat) = 1 := rfl
      rw [this, sumC, sumC]; grind
    rw [this]
    simp
theorem canR_mono {ds : List Deed} : ∀ {r : List Turn} {f g : Nat → Rat}, (∀ j, f j ≤ g j) → canR ds r f → canR ds r g
  | [], _, _, _, _ => trivial
  | t :: r, f, g, h, c => ⟨fun k hk => canS_mono (fun j => by have := h j; grind) (c.1 k hk), canR_mono (fun j => by have := h j; grind) c.2⟩
end Fl

/-! Fl: the functions of defs that stand in many laws (2). -/
namespace Fl
open PySem

noncomputable def T__law_behind_1 : Tgt := gT 2 (gsC (gN 4) (gsC (gN 5) (gsN)))
noncomputable def B__law_behind_1 : Stm := sSeq (sAsg (eCall m__law_times (aC (eIxV 2 (eC (.int 1))) (aC (eV 5) (aN)))) (gN 6))
  (sSetIx 3 (eCall m__law_sum (aC (eIxV 3 (eV 4)) (aC (eTup (aC (eBin fSub (eC (.int 0)) (eIxV 6 (eC (.int 0)))) (aC (eIxV 6 (eC (.int 1))) (aN)))) (aN)))) (eV 4))
noncomputable def T__law_behind_2 : Tgt := gT 2 (gsC (gN 4) (gsC (gN 5) (gsN)))
noncomputable def B__law_behind_2 : Stm := sSetIx 3 (eCall m__law_sum (aC (eIxV 3 (eV 4)) (aC (eCall m__law_times (aC (eIxV 2 (eC (.int 1))) (aC (eV 5) (aN)))) (aN)))) (eV 4)
noncomputable def b__law_behind : Stm :=
  sSeq (sAsg (eG1V gList 1) (gN 3))
  (sSeq (sFor (iL (eIx (eIx (eIxV 0 (eC (.int 1))) (eIxV 2 (eC (.int 0)))) (eC (.int 0)))) (T__law_behind_1)
  (B__law_behind_1))
  (sSeq (sFor (iL (eIx (eIx (eIxV 0 (eC (.int 1))) (eIxV 2 (eC (.int 0)))) (eC (.int 1)))) (T__law_behind_2)
  (B__law_behind_2))
  (sRet (eM 3))))
noncomputable def m__law_behind : Fn := fnM 3 7 false b__law_behind
abbrev V__law_behind (_law_net _law_stand _law_step _law_found _law_place _law_amount_here _law_much : D := .dead) : Fl.Env := [_law_net, _law_stand, _law_step, _law_found, _law_place, _law_amount_here, _law_much]

noncomputable def T__law_rich_1 : Tgt := gN 3
noncomputable def B__law_rich_1 : Stm := sSeq (sAsg (eCallX m__law_amount 0 (aN)) (gN 4))
  (sApp 2 (eTup (aC (eBin mulD (eIxV 4 (eC (.int 0))) (eIx (eLst (aC (eC (.int 0)) (aC (eC (.int 1)) (aC (eC (.int 12)) (aC (eC (.int 1000)) (aN)))))) (eCallX m__law_take 0 (aC (eC (.int 4)) (aN))))) (aC (eIxV 4 (eC (.int 1))) (aN)))))
noncomputable def C__law_rich_2 : List D → Fl.Env → Option (List D × Fl.Env) := lcL (gN 5) (bYes) (eCall m__law_lowest (aC (eIxV 5 (eC (.int 0))) (aC (eIxV 5 (eC (.int 1))) (aN)))) [5]
noncomputable def b__law_rich : Stm :=
  sSeq (sAsg (eLst (aN)) (gN 2))
  (sSeq (sFor (iR1 (aC (eV 1) (aN))) (T__law_rich_1)
  (B__law_rich_1))
  (sRet (eLcF 6 (iL (eV 2)) C__law_rich_2 [5])))
noncomputable def m__law_rich : Fn := fnM 2 6 true b__law_rich
abbrev V__law_rich (_law_room_here _law_many _law_found _law_place _law_much _law_one : D := .dead) : Fl.Env := [_law_room_here, _law_many, _law_found, _law_place, _law_much, _law_one]

noncomputable def T__law_share_1 : Tgt := gT 2 (gsC (gN 5) (gsC (gN 6) (gsN)))
noncomputable def B__law_share_1 : Stm := sSeq (sAsg (eCall m__law_lowest (aC (eBin mulD (eIx (eIxV 2 (eV 5)) (eC (.int 0))) (eIxV 6 (eC (.int 1)))) (aC (eBin mulD (eIx (eIxV 2 (eV 5)) (eC (.int 1))) (eIxV 6 (eC (.int 0)))) (aN)))) (gN 7))
  (sIf (bOr (bOf (eNonB false (eV 4))) (bOf (eCall m__law_less (aC (eV 7) (aC (eV 4) (aN)))))) (sAsg (eV 7) (gN 4)) (sPass))
noncomputable def b__law_share : Stm :=
  sSeq (sAsg (eC .non) (gN 4))
  (sSeq (sFor (iL (eIx (eIx (eIxV 1 (eC (.int 1))) (eV 3)) (eC (.int 0)))) (T__law_share_1)
  (B__law_share_1))
  (sSeq (sIf (bOf (eNonB false (eV 4))) (sRet (eCall m__law_lowest (aC (eBin addD (eC (.int 1)) (eCallX m__law_take 0 (aC (eC (.int 6)) (aN)))) (aC (eBin addD (eC (.int 1)) (eCallX m__law_take 0 (aC (eC (.int 2)) (aN)))) (aN))))) (sPass))
  (sSeq (sIf (bOf (eCall m__law_less (aC (eTup (aC (eBin fPow (eC (.int 10)) (eC (.int 6))) (aC (eC (.int 1)) (aN)))) (aC (eV 4) (aN))))) (sAsg (eTup (aC (eBin fPow (eC (.int 10)) (eC (.int 6))) (aC (eC (.int 1)) (aN)))) (gN 4)) (sPass))
  (sSeq (sAsg (eIx (eLst (aC (eC (.int 1)) (aC (eC (.int 1)) (aC (eC (.int 2)) (aC (eC (.int 3)) (aN)))))) (eCallX m__law_take 0 (aC (eC (.int 4)) (aN)))) (gN 8))
  (sSeq (sAsg (eCall m__law_times (aC (eV 4) (aC (eTup (aC (eV 8) (aC (eBin addD (eV 8) (eIx (eLst (aC (eC (.int 0)) (aC (eC (.int 1)) (aN)))) (eCallX m__law_take 0 (aC (eC (.int 2)) (aN))))) (aN)))) (aN)))) (gN 9))
  (sSeq (sIf (bOf (eBin fNe (eBin fMod (eC (.int 5040)) (eIxV 9 (eC (.int 1)))) (eC (.int 0)))) (sAsg (eTup (aC (eBin fDiv (eBin mulD (eIxV 9 (eC (.int 0))) (eC (.int 5040))) (eIxV 9 (eC (.int 1)))) (aC (eC (.int 5040)) (aN)))) (gN 9)) (sPass))
  (sRet (eCall m__law_lowest (aC (eIxV 9 (eC (.int 0))) (aC (eIxV 9 (eC (.int 1))) (aN)))))))))))
noncomputable def m__law_share : Fn := fnM 4 10 true b__law_share
abbrev V__law_share (_law_room_here _law_net _law_stand _law_deed_here _law_most _law_place _law_amount_here _law_much _law_top _law_part : D := .dead) : Fl.Env := [_law_room_here, _law_net, _law_stand, _law_deed_here, _law_most, _law_place, _law_amount_here, _law_much, _law_top, _law_part]

noncomputable def C__law_all_1 : List D → Fl.Env → Option (List D × Fl.Env) := lcL (gT 2 (gsC (gN 2) (gsC (gN 3) (gsN)))) (bYes) (eCall m__law_sum (aC (eV 2) (aC (eV 3) (aN)))) [2, 3]
noncomputable def b__law_all : Stm :=
  sRet (eLcF 4 (iZ (aC (eV 0) (aC (eV 1) (aN)))) C__law_all_1 [2, 3])
noncomputable def m__law_all : Fn := fnM 2 4 false b__law_all
abbrev V__law_all (_law_one _law_other _law_here _law_there : D := .dead) : Fl.Env := [_law_one, _law_other, _law_here, _law_there]

noncomputable def C__law_scaled_1 : List D → Fl.Env → Option (List D × Fl.Env) := lcL (gN 2) (bYes) (eCall m__law_times (aC (eV 2) (aC (eV 1) (aN)))) [2]
noncomputable def b__law_scaled : Stm :=
  sRet (eLcF 3 (iL (eV 0)) C__law_scaled_1 [2])
noncomputable def m__law_scaled : Fn := fnM 2 3 false b__law_scaled
abbrev V__law_scaled (_law_stand _law_by _law_one : D := .dead) : Fl.Env := [_law_stand, _law_by, _law_one]

noncomputable def T_change_of_steps_1 : Tgt := gT 2 (gsC (gN 5) (gsC (gN 6) (gsN)))
noncomputable def B_change_of_steps_1 : Stm := sSetIx 2 (eCall m_lessened (aC (eIxV 2 (eV 5)) (aC (eCall m_timed (aC (eV 4) (aC (eV 6) (aN)))) (aN)))) (eV 5)
noncomputable def T_change_of_steps_2 : Tgt := gT 2 (gsC (gN 5) (gsC (gN 6) (gsN)))
noncomputable def B_change_of_steps_2 : Stm := sSetIx 2 (eCall m_added (aC (eIxV 2 (eV 5)) (aC (eCall m_timed (aC (eV 4) (aC (eV 6) (aN)))) (aN)))) (eV 5)
noncomputable def T_change_of_steps_3 : Tgt := gT 2 (gsC (gN 3) (gsC (gN 4) (gsN)))
noncomputable def B_change_of_steps_3 : Stm := sSeq (sFor (iL (eIx (eIx (eIxV 0 (eC (.int 1))) (eV 3)) (eC (.int 0)))) (T_change_of_steps_1)
  (B_change_of_steps_1))
  (sFor (iL (eIx (eIx (eIxV 0 (eC (.int 1))) (eV 3)) (eC (.int 1)))) (T_change_of_steps_2)
  (B_change_of_steps_2))
noncomputable def b_change_of_steps : Stm :=
  sSeq (sAsg (eBin mulD (eLst (aC (eC (.tup [.int 0, .int 1])) (aN))) (eIxV 0 (eC (.int 0)))) (gN 2))
  (sSeq (sFor (iL (eV 1)) (T_change_of_steps_3)
  (B_change_of_steps_3))
  (sRet (eM 2)))
noncomputable def m_change_of_steps : Fn := fnM 2 7 false b_change_of_steps
abbrev V_change_of_steps (net steps found deed part place amount : D := .dead) : Fl.Env := [net, steps, found, deed, part, place, amount]

noncomputable def b_first_lack : Stm :=
  sSeq (sIf (bOf (eCall m_is_less (aC (eV 0) (aC (eV 2) (aN))))) (sRet (eC (.int 0))) (sPass))
  (sSeq (sIf (bOr (bOf (eBinL fEq 3 (eC (.int 1)))) (bOf (eBin fGe (eIxV 1 (eC (.int 0))) (eC (.int 0))))) (sRet (eC .non)) (sPass))
  (sSeq (sAsg (eCall m_divided (aC (eCall m_lessened (aC (eV 0) (aC (eV 2) (aN)))) (aC (eTup (aC (eBin fSub (eC (.int 0)) (eIxV 1 (eC (.int 0)))) (aC (eIxV 1 (eC (.int 1))) (aN)))) (aN)))) (gT 2 (gsC (gN 4) (gsC (gN 5) (gsN)))))
  (sSeq (sAsg (eBin addD (eBin fDiv (eV 4) (eV 5)) (eC (.int 1))) (gN 6))
  (sSeq (sIf (bOf (eBin fGe (eV 6) (eV 3))) (sRet (eC .non)) (sPass))
  (sRet (eM 6))))))
noncomputable def m_first_lack : Fn := fnM 4 7 false b_first_lack
abbrev V_first_lack (held falls wanted rounds top bottom lap : D := .dead) : Fl.Env := [held, falls, wanted, rounds, top, bottom, lap]

noncomputable def T_parts_of_1 : Tgt := gT 2 (gsC (gN 5) (gsC (gN 6) (gsN)))
noncomputable def B_parts_of_1 : Stm := sSetIx 2 (eCall m_added (aC (eIxV 2 (eV 5)) (aC (eCall m_timed (aC (eCallD m_fraction [D.int 1] (aC (eV 3) (aN))) (aC (eV 6) (aN)))) (aN)))) (eV 5)
noncomputable def T_parts_of_2 : Tgt := gT 2 (gsC (gN 3) (gsC (gN 4) (gsN)))
noncomputable def B_parts_of_2 : Stm := sFor (iL (eV 4)) (T_parts_of_1)
  (B_parts_of_1)
noncomputable def b_parts_of : Stm :=
  sSeq (sAsg (eBin mulD (eLst (aC (eC (.tup [.int 0, .int 1])) (aN))) (eB gLen (aC (eIxV 0 (eC (.int 1))) aN))) (gN 2))
  (sSeq (sFor (iL (eV 1)) (T_parts_of_2)
  (B_parts_of_2))
  (sRet (eM 2)))
noncomputable def m_parts_of : Fn := fnM 2 7 false b_parts_of
abbrev V_parts_of (net run found rounds steps deed part : D := .dead) : Fl.Env := [net, run, found, rounds, steps, deed, part]

noncomputable def C_times_1 : List D → Fl.Env → Option (List D × Fl.Env) := lcL (gT 2 (gsC (gN 4) (gsC (gN 5) (gsN)))) (bYes) (eTup (aC (eV 4) (aC (eCall m_timed (aC (eV 5) (aC (eV 1) (aN)))) (aN)))) [4, 5]
noncomputable def C_times_2 : List D → Fl.Env → Option (List D × Fl.Env) := lcL (gT 2 (gsC (gN 2) (gsC (gN 3) (gsN)))) (bYes) (eTup (aC (eV 2) (aC (eLcF 6 (iL (eV 3)) C_times_1 [4, 5]) (aN)))) [2, 3]
noncomputable def b_times : Stm :=
  sRet (eLcF 6 (iL (eV 0)) C_times_2 [2, 3])
noncomputable def m_times : Fn := fnM 2 6 false b_times
abbrev V_times (run by_ rounds steps deed part : D := .dead) : Fl.Env := [run, by_, rounds, steps, deed, part]

noncomputable def T__law_walked_1 : Tgt := gN 5
noncomputable def B__law_walked_1 : Stm := sIf (bOf (eBin fGt (eB gLen (aC (eIxV 0 (eC (.int 1))) aN)) (eC (.int 0)))) (sSeq (sAsg (eCallX m__law_take 5 (aC (eB gLen (aC (eIxV 0 (eC (.int 1))) aN)) (aN))) (gN 6))
  (sSeq (sAsg (eCallX m__law_share 5 (aC (eV 0) (aC (eV 4) (aC (eV 6) (aN))))) (gN 7))
  (sIf (bOf (eBin fGt (eIxV 7 (eC (.int 0))) (eC (.int 0)))) (sSeq (sApp 3 (eTup (aC (eV 6) (aC (eV 7) (aN)))))
  (sAsg (eCallB m__law_behind [.v 0, .v 4, .e (eTup (aC (eV 6) (aC (eV 7) (aN))))] (aC (eV 0) (aC (eV 4) (aC (eTup (aC (eV 6) (aC (eV 7) (aN)))) (aN))))) (gN 4))) (sPass)))) (sPass)
noncomputable def b__law_walked : Stm :=
  sSeq (sAsg (eLst (aN)) (gN 3))
  (sSeq (sAsg (eG1V gList 1) (gN 4))
  (sSeq (sForM (eM 2) (T__law_walked_1)
  (B__law_walked_1))
  (sRet (eTup (aC (eM 3) (aC (eM 4) (aN)))))))
noncomputable def m__law_walked : Fn := fnM 3 8 false b__law_walked
abbrev V__law_walked (_law_net _law_stand _law_rooms _law_steps _law_here _law_room_here _law_deed_here _law_part : D := .dead) : Fl.Env := [_law_net, _law_stand, _law_rooms, _law_steps, _law_here, _law_room_here, _law_deed_here, _law_part]

noncomputable def T_lacks_in_1 : Tgt := gT 2 (gsC (gN 11) (gsC (gN 12) (gsN)))
noncomputable def B_lacks_in_1 : Stm := sSeq (sAsg (eCallB m_first_lack [.e (eIxV 6 (eV 11)), .e (eIxV 5 (eV 11)), .e (eCall m_timed (aC (eV 10) (aC (eV 12) (aN)))), .v 3] (aC (eIxV 6 (eV 11)) (aC (eIxV 5 (eV 11)) (aC (eCall m_timed (aC (eV 10) (aC (eV 12) (aN)))) (aC (eV 3) (aN)))))) (gN 13))
  (sSeq (sIf (bAnd (bOf (eNonB true (eV 13))) (bOr (bOf (eNonB false (eV 7))) (bOf (eBin fLt (eV 13) (eIxV 7 (eC (.int 0))))))) (sAsg (eTup (aC (eV 13) (aC (eV 8) (aC (eV 11) (aN))))) (gN 7)) (sPass))
  (sSetIx 6 (eCall m_lessened (aC (eIxV 6 (eV 11)) (aC (eCall m_timed (aC (eV 10) (aC (eV 12) (aN)))) (aN)))) (eV 11)))
noncomputable def T_lacks_in_2 : Tgt := gT 2 (gsC (gN 11) (gsC (gN 12) (gsN)))
noncomputable def B_lacks_in_2 : Stm := sSetIx 6 (eCall m_added (aC (eIxV 6 (eV 11)) (aC (eCall m_timed (aC (eV 10) (aC (eV 12) (aN)))) (aN)))) (eV 11)
noncomputable def T_lacks_in_3 : Tgt := gT 2 (gsC (gN 8) (gsC (gT 2 (gsC (gN 9) (gsC (gN 10) (gsN)))) (gsN)))
noncomputable def B_lacks_in_3 : Stm := sSeq (sFor (iL (eIx (eIx (eIxV 0 (eC (.int 1))) (eV 9)) (eC (.int 0)))) (T_lacks_in_1)
  (B_lacks_in_1))
  (sFor (iL (eIx (eIx (eIxV 0 (eC (.int 1))) (eV 9)) (eC (.int 1)))) (T_lacks_in_2)
  (B_lacks_in_2))
noncomputable def b_lacks_in : Stm :=
  sSeq (sAsg (eV 2) (gT 2 (gsC (gN 3) (gsC (gN 4) (gsN)))))
  (sSeq (sAsg (eCallB m_change_of_steps [.v 0, .v 4] (aC (eV 0) (aC (eV 4) (aN)))) (gN 5))
  (sSeq (sAsg (eG1V gList 1) (gN 6))
  (sSeq (sAsg (eC .non) (gN 7))
  (sSeq (sFor (iE (aC (eV 4) (aN))) (T_lacks_in_3)
  (B_lacks_in_3))
  (sRet (eM 7))))))
noncomputable def m_lacks_in : Fn := fnM 3 14 false b_lacks_in
abbrev V_lacks_in (net stand turn rounds steps falls held found number deed part place amount lap : D := .dead) : Fl.Env := [net, stand, turn, rounds, steps, falls, held, found, number, deed, part, place, amount, lap]

noncomputable def C_walk_1 : List D → Fl.Env → Option (List D × Fl.Env) := lcL (gT 2 (gsC (gN 8) (gsC (gN 9) (gsN)))) (bYes) (eCall m_added (aC (eV 8) (aC (eCall m_timed (aC (eV 7) (aC (eV 9) (aN)))) (aN)))) [8, 9]
noncomputable def T_walk_2 : Tgt := gT 2 (gsC (gN 4) (gsC (gN 5) (gsN)))
noncomputable def B_walk_2 : Stm := sSeq (sAsg (eCallB m_lacks_in [.v 0, .v 3, .v 5] (aC (eV 0) (aC (eV 3) (aC (eV 5) (aN))))) (gN 6))
  (sSeq (sIf (bOf (eNonB true (eV 6))) (sRaise "Dry" (aC (eV 4) (aC (eIxV 6 (eC (.int 0))) (aC (eIxV 6 (eC (.int 1))) (aC (eIxV 6 (eC (.int 2))) (aN)))))) (sPass))
  (sSeq (sAsg (eCallD m_fraction [D.int 1] (aC (eIxV 5 (eC (.int 0))) (aN))) (gN 7))
  (sAsg (eLcF 10 (iZ (aC (eV 3) (aC (eCallB m_change_of_steps [.v 0, .e (eIxV 5 (eC (.int 1)))] (aC (eV 0) (aC (eIxV 5 (eC (.int 1))) (aN)))) (aN)))) C_walk_1 [8, 9]) (gN 3))))
noncomputable def b_walk : Stm :=
  sSeq (sAsg (eG1V gList 1) (gN 3))
  (sSeq (sFor (iE (aC (eV 2) (aN))) (T_walk_2)
  (B_walk_2))
  (sRet (eM 3)))
noncomputable def m_walk : Fn := fnM 3 10 false b_walk
abbrev V_walk (net stand run found number turn lack by_ here more : D := .dead) : Fl.Env := [net, stand, run, found, number, turn, lack, by_, here, more]

end Fl

/-! Fl: what the defs of runs reckon. -/
namespace Fl
open PySem
@[simp] theorem isNon_fr (q : Rat) : isNon (fr q) = some false := rfl
@[simp] theorem isNon_non : isNon .non = some true := rfl
@[simp] theorem isNon_int (a : Int) : isNon (.int a) = some false := rfl
@[simp] theorem isNon_tup (ds : List D) : isNon (.tup ds) = some false := rfl
@[simp] theorem isNon_lst (o : Bool) (ds : List D) : isNon (.lst o ds) = some false := rfl
/-! ### loops over the rows of a side -/
theorem loop_side {m : Nat} {T : Tgt} {B : Stm} {I : (Nat → Rat) → Env → Prop} {c : Rat → Rat} {J : Nat → Rat → Prop}
    (step : ∀ f (p : Nat × Rat) env, I f env → p.1 < m → Sz p.2 40 → 0 < p.2 → J p.1 (f p.1) → ∃ e1 e2, T (row p) env = some e1 ∧ (B e1 = .nx e2 ∨ B e1 = .ct e2) ∧ I (updF f p.1 (f p.1 + c p.2)) e2) :
    ∀ (s : Side) (f : Nat → Rat) (env : Env), SideOk m s → (∀ p ∈ s, J p.1 (f p.1)) → I f env → ∃ e, forL T B (sideL s) env = .nx e ∧ I (fun j => f j + amtc c s j) e
  | [], f, env, _, _, h => ⟨env, rfl, by
    have : (fun j => f j + amtc c [] j) = f := by funext j; rw [amtc, Rat.add_zero]
    rwa [this]⟩
  | p :: s, f, env, h, hj, hi => by
    obtain ⟨e1, e2, h1, h2, h3⟩ := step f p env hi (h.lt p (by simp)) (h.sz p (by simp)) (h.pos p (by simp)) (hj p (by simp))
    obtain ⟨e, h4, h5⟩ := loop_side step s (updF f p.1 (f p.1 + c p.2)) e2 h.tail (fun q hq => by
      have : q.1 ≠ p.1 := by have := (List.pairwise_cons.mp h.up).1 q hq; omega
      rw [updF, if_neg this]
      exact hj q (by simp [hq])) h3
    refine ⟨e, ?_, ?_⟩
    · simp only [sideL] at h4 ⊢
      rw [List.map_cons, forL, h1]
      rcases h2 with h2 | h2 <;> (dsimp only; rw [h2]; exact h4)
    · have : (fun j => updF f p.1 (f p.1 + c p.2) j + amtc c s j) = fun j => f j + amtc c (p :: s) j := by
        funext j
        rw [amtc]
        unfold updF
        by_cases hj : j = p.1
        · subst hj; simp; grind
        · rw [if_neg hj, if_neg (fun z => hj z.symm)]; grind
      rwa [this] at h5
theorem amtc_scale (q : Rat) (s : Side) (j : Nat) : amtc (fun a => q * a) s j = q * amt s j := by
  induction s with
  | nil => simp [amtc, amt]
  | cons a l ih =>
    rw [amtc, amt, ih]
    split <;> grind
theorem amtc_nscale (q : Rat) (s : Side) (j : Nat) : amtc (fun a => -(q * a)) s j = -(q * amt s j) := by
  induction s with
  | nil => simp [amtc, amt]
  | cons a l ih =>
    rw [amtc, amt, ih]
    split <;> grind
theorem Sz.neg {q : Rat} {n : Nat} (h : Sz q n) : Sz (-q) n := ⟨by have := h.1; simpa using this, by have := h.2; simpa using this⟩
/-- a net of deeds that are well made -/
structure NetOk (m : Nat) (ds : List Deed) : Prop where
  mm : m ≤ 1000
  n : ds.length ≤ 1000
  d : ∀ d ∈ ds, DeedOk m d
theorem NetOk.dd {m : Nat} {ds : List Deed} (h : NetOk m ds) (k : Nat) : DeedOk m (dd ds k) := by
  unfold Fl.dd
  by_cases hk : k < ds.length
  · rw [List.getD_eq_getElem?_getD, List.getElem?_eq_getElem hk]; exact h.d _ (List.getElem_mem hk)
  · rw [List.getD_eq_getElem?_getD, List.getElem?_eq_none (by omega)]
    exact ⟨⟨.nil, fun _ h => by simp at h, fun _ h => by simp at h, fun _ h => by simp at h⟩, ⟨.nil, fun _ h => by simp at h, fun _ h => by simp at h, fun _ h => by simp at h⟩⟩
theorem deeds_dd {o : Bool} {ds : List Deed} {k : Nat} (h : k < ds.length) : L2.atI (deedsL o ds) (k : Int) = some (deedD o (dd ds k)) := by
  rw [deeds_at h]
  unfold dd
  rw [List.getD_eq_getElem?_getD, List.getElem?_eq_getElem h]; rfl
def stepD (x : Step) : D := row x
abbrev VSz (m : Nat) (f : Nat → Rat) (n : Nat) : Prop := ∀ j, j < m → Sz (f j) n
theorem NetOk.stC_sz {m : Nat} {ds : List Deed} (h : NetOk m ds) {x : Step} {n : Nat} (hx : Sz x.2 n) : VSz m (stC ds x) (n + 81) := fun j _ => hx.mul ((h.dd x.1).chg_sz j)
theorem behind_spec {m : Nat} {ds : List Deed} {x : Step} {f : Nat → Rat} {n k : Nat} {o : Bool} (h : NetOk m ds) (hx : x.1 < ds.length) (hq : Sz x.2 k) (hf : VSz m f n) (hn : n + 2 * k + 100 ≤ 8900) :
    m__law_behind [netD false m ds, .lst o (frR m f), stepD x] = .ok (.lst true (frR m fun j => f j + stC ds x j), .dead) := by
  have hd := h.dd x.1
  have hqa : ∀ {a : Rat}, Sz a 40 → Sz (x.2 * a) (k + 40) := fun ha => hq.mul ha
  obtain ⟨ea, h1, a, b, c, rfl⟩ := loop_side (m := m) (T := T__law_behind_1) (B := B__law_behind_1) (c := fun a => -(x.2 * a)) (J := fun _ q => Sz q n)
    (I := fun g env => ∃ a b c, env = [netD false m ds, .lst o (frR m f), stepD x, .lst true (frR m g), a, b, c])
    (fun g p env hi hp hz h0 hj => by
      obtain ⟨a, b, c, rfl⟩ := hi
      have s1 := times_spec hq hz (by omega)
      have s2 := sum_spec hj (hqa hz).neg (by omega)
      refine ⟨_, _, rfl, .inl ?_, .int p.1, fr p.2, fr (x.2 * p.2), rfl⟩
      simp [B__law_behind_1, stepD, row, s1, frR_at hp, fr_neg, s2, ixN_k hp, frR_set]) (dd ds x.1).1 f (V__law_behind (netD false m ds) (.lst o (frR m f)) (stepD x) (.lst true (frR m f))) hd.l (fun p hp => hf _ (hd.l.lt p hp)) ⟨.dead, .dead, .dead, rfl⟩
  have hf2 : VSz m (fun j => f j + amtc (fun a => -(x.2 * a)) (dd ds x.1).1 j) (n + k + 41) := fun j hj => by
    show Sz (f j + amtc (fun a => -(x.2 * a)) (dd ds x.1).1 j) _
    rw [amtc_nscale]
    exact ((hf j hj).add (hqa (hd.l.amt_sz j)).neg).mono (by omega)
  obtain ⟨eb, h2, a2, b2, c2, rfl⟩ := loop_side (m := m) (T := T__law_behind_2) (B := B__law_behind_2) (c := fun a => x.2 * a) (J := fun _ q => Sz q (n + k + 41))
    (I := fun g env => ∃ a b c, env = [netD false m ds, .lst o (frR m f), stepD x, .lst true (frR m g), a, b, c])
    (fun g p env hi hp hz h0 hj => by
      obtain ⟨a, b, c, rfl⟩ := hi
      have s1 := times_spec hq hz (by omega)
      have s2 := sum_spec hj (hqa hz) (by omega)
      refine ⟨_, _, rfl, .inl ?_, .int p.1, fr p.2, c, rfl⟩
      simp [B__law_behind_2, stepD, row, s1, frR_at hp, s2, ixN_k hp, frR_set]) (dd ds x.1).2 (fun j => f j + amtc (fun a => -(x.2 * a)) (dd ds x.1).1 j) _ hd.r (fun p hp => hf2 _ (hd.r.lt p hp)) ⟨a, b, c, rfl⟩
  have e3 : frR m (fun j => f j + amtc (fun a => -(x.2 * a)) (dd ds x.1).1 j + amtc (fun a => x.2 * a) (dd ds x.1).2 j) = frR m fun j => f j + stC ds x j := frR_ext fun j _ => by
    rw [amtc_nscale, amtc_scale]; unfold stC chg; grind
  rw [e3] at h2
  have hx2 : ixD (stepD x) 0 = some (.int x.1) := by simp [stepD, row]
  have hsd : isDead (stepD x) = false := rfl
  have hso : own (stepD x) = false := by simp [stepD, row]
  cases o <;> simp [m__law_behind, b__law_behind, gList, itD, shI, hx2, hsd, hso, deeds_dd hx, h1, h2]

/-! ### stands drawn, rows added and timed -/
theorem pick {α : Type} {xs : List α} {x : Int} (h0 : 0 ≤ x) (h1 : x < xs.length) : ∃ a ∈ xs, L2.atI xs x = some a := by
  obtain ⟨k, rfl⟩ : ∃ k : Nat, x = (k : Int) := ⟨x.toNat, by omega⟩
  have hk : k < xs.length := by omega
  exact ⟨xs[k], List.getElem_mem hk, by rw [atI_k]; exact List.getElem?_eq_getElem hk⟩
theorem pickI {xs : List Int} {x : Int} (h0 : 0 ≤ x) (h1 : x < xs.length) : ∃ a ∈ xs, L2.atI (xs.map D.int) x = some (.int a) := by
  obtain ⟨d, hd, e⟩ := pick (xs := xs.map D.int) h0 (by simpa using h1)
  obtain ⟨a, ha, rfl⟩ := List.mem_map.mp hd
  exact ⟨a, ha, e⟩
/-- a list of fractions as they come, by place -/
theorem frs_frR (qs : List Rat) : qs.map fr = frR qs.length fun j => qs.getD j 0 := by
  apply List.ext_getElem?
  intro i
  by_cases h : i < qs.length
  · rw [frR_get h]; simp [h]
  · rw [List.getElem?_eq_none (by simpa using h), List.getElem?_eq_none (by simpa using h)]
theorem forL_rng {f : Tgt} {body : Stm} (I : Nat → Env → Prop) {env : Env} (lo : Nat) (n : Nat) (hs : ∀ k env, lo ≤ k → k < lo + n → I k env → ∃ e1 e2, f (.int k) env = some e1 ∧ (body e1 = .nx e2 ∨ body e1 = .ct e2) ∧ I (k + 1) e2) (h : I lo env) {z : Int} (hz : z = (lo : Int) := by rfl) :
    ∃ e, forL f body (rangeD z n) env = .nx e ∧ I (lo + n) e := by rw [hz]; exact forL_range I lo n hs h
theorem num_pos {q : Rat} (h : 0 < q) : 0 < q.num := (gt0_num (by grind)).mpr (by grind)
theorem rich_draw {r : D} {m : Nat} (hr : RoomOk r) (hm : m ≤ 1000) : ∃ (f : Nat → Rat) (r' : D), m__law_rich [r, .int m] = .ok (.lst true (frR m f), r') ∧ RoomOk r' ∧ ∀ j, Sz (f j) 50 ∧ 0 ≤ f j := by
  obtain ⟨ea, h1, r1, l, a, b, rfl, hr1, hl, hq⟩ := forL_rng (z := 0) (f := T__law_rich_1) (body := B__law_rich_1) (fun k env => ∃ (r1 : D) (l : List (Int × Int)) (a b : D), env = V__law_rich r1 (.int m) (.lst true (l.map fun x => .tup [.int x.1, .int x.2])) a b ∧ RoomOk r1 ∧ l.length = k ∧ ∀ x ∈ l, 0 ≤ x.1 ∧ x.1 < 2 ^ 50 ∧ 0 < x.2 ∧ x.2 < 2 ^ 50)
    (env := V__law_rich r (.int m) (.lst true [])) 0 m (fun k env h0 hk he => by
      obtain ⟨r1, l, a, b, rfl, hr1, hl, hq⟩ := he
      obtain ⟨q, r2, e2, hr2, hz, hp⟩ := amount_draw hr1
      obtain ⟨x, r3, e3, hr3, x0, x1⟩ := take_spec hr2 (n := 4) (by decide) (by decide)
      obtain ⟨y, y1, y2⟩ := pickI (xs := [0, 1, 12, 1000]) x0 x1
      have yb : 0 ≤ y ∧ y ≤ 1000 := by simp at y1; omega
      have qn : 0 < q.num := num_pos hp
      have z1 := hz.1
      have z2 := hz.2
      have qd := den_pos q
      have m1 : mulD (.int q.num) (.int y) = some (.int (q.num * y)) := mulD_small (by omega) (by omega)
      have b1 : 0 ≤ q.num * y := Int.mul_nonneg (by omega) yb.1
      have b2 : q.num * y ≤ 2 ^ 40 * 1000 := Int.mul_le_mul (by omega) yb.2 yb.1 (by omega)
      have hz' : l.length < 100000 := by omega
      refine ⟨_, V__law_rich r3 (.int m) (.lst true ((l ++ [(q.num * y, (q.den : Int))]).map fun x => .tup [.int x.1, .int x.2])) (.int k) (fr q), rfl, .inl ?_, r3, _, .int k, fr q, rfl, hr3, by simp; omega, fun z hz => ?_⟩
      · simp only [List.map_cons, List.map_nil] at y2
        simp [B__law_rich_1, e2, hr1.nd, hr2.nd, hr3.nd, e3, isLst, y2, m1, hz']
      · rcases List.mem_append.mp hz with hz | hz
        · exact hq z hz
        · simp at hz; subst hz
          refine ⟨b1, ?_, qd, ?_⟩ <;> dsimp only <;> omega) ⟨r, [], .dead, .dead, rfl, hr, rfl, by simp⟩
  have lc : ∀ env, env = V__law_rich r1 (.int m) (.lst false (l.map fun x => .tup [.int x.1, .int x.2])) a b .dead → C__law_rich_2 (l.map fun x => .tup [.int x.1, .int x.2]) env = some (l.map fun x => fr (Rat.divInt x.1 x.2), env) := fun env he => by
    subst he
    refine lcL_map l _ _ fun x hx => ?_
    obtain ⟨h1, h2, h3, h4⟩ := hq x hx
    exact ⟨_, _, _, rfl, rfl, by simp [lowest_spec h3 (lim60 (by omega))]; rfl, rfl⟩
  have shl : shL (l.map fun x => D.tup [.int x.1, .int x.2]) = l.map fun x => D.tup [.int x.1, .int x.2] := shL_map (fun _ => by simp) _
  have hl' : l.length = m := by omega
  have e2 : (l.map fun x => fr (Rat.divInt x.1 x.2)) = frR m fun j => (l.map fun x => Rat.divInt x.1 x.2).getD j 0 := by
    have := frs_frR (l.map fun x => Rat.divInt x.1 x.2)
    rw [List.map_map, List.length_map, hl'] at this
    exact this
  refine ⟨fun j => (l.map fun x => Rat.divInt x.1 x.2).getD j 0, r1, ?_, hr1, fun j => ?_⟩
  · have hm1 : -1000000 ≤ (m : Int) := by omega
    have hm2 : (m : Int) ≤ 1000000 := by omega
    have hm3 : m ≤ 100000 := by omega
    simp [m__law_rich, b__law_rich, hm1, hm2, h1, shl, hl', hm3, lc, e2]
  · dsimp only
    by_cases hj : j < (l.map fun x => Rat.divInt x.1 x.2).length
    · rw [List.getD_eq_getElem?_getD, List.getElem?_eq_getElem hj, Option.getD_some, List.getElem_map]
      obtain ⟨q1, q2, q3, q4⟩ := hq _ (List.getElem_mem (by simpa using hj))
      exact ⟨sz_divInt (by omega) (by omega) (by omega), Rat.divInt_nonneg q1 (by omega)⟩
    · rw [List.getD_eq_getElem?_getD, List.getElem?_eq_none (by omega), Option.getD_none]
      exact ⟨zero_sz.mono (by decide), by decide⟩

/-! ### a share of the most of a deed -/
def optD : Option Rat → D
  | none => .non
  | some q => fr q
theorem share_loop {m : Nat} {r net st dk : D} {f : Nat → Rat} {n : Nat} {o : Bool} (hst : st = .lst o (frR m f)) (hf : VSz m f n) (h0 : ∀ j, j < m → 0 ≤ f j) (hn : 2 * n + 200 ≤ 8900) : ∀ (s : Side) (μ : Option Rat) (a b c : D), SideOk m s → (∀ v, μ = some v → 0 ≤ v ∧ Sz v (n + 40)) →
    ∃ μ' a' b' c', forL T__law_share_1 B__law_share_1 (sideL s) (V__law_share r net st dk (optD μ) a b c) = .nx (V__law_share r net st dk (optD μ') a' b' c') ∧
      (∀ v', μ' = some v' → 0 ≤ v' ∧ Sz v' (n + 40) ∧ (∀ p ∈ s, v' * p.2 ≤ f p.1) ∧ ∀ v, μ = some v → v' ≤ v) ∧ (μ' = none → s = [] ∧ μ = none)
  | [], μ, a, b, c, _, hμ => ⟨μ, a, b, c, rfl, fun v hv => ⟨(hμ v hv).1, (hμ v hv).2, fun p hp => by simp at hp, fun w hw => by rw [hv] at hw; cases hw; exact Rat.le_refl⟩, fun h => ⟨rfl, h⟩⟩
  | p :: s, μ, a, b, c, h, hμ => by
    have hp := h.lt p (by simp)
    have hz := h.sz p (by simp)
    have h0p := h.pos p (by simp)
    have fz := hf p.1 hp
    have f0 := h0 p.1 hp
    have pn := num_pos h0p
    have m1 := mulD_sz (a := (f p.1).num) (b := p.2.den) fz.1 hz.2 (by omega)
    have m2 := mulD_sz (a := (f p.1).den) (b := p.2.num) (n := n) (m := 40) fz.2 hz.1 (by omega)
    have l1 := lowest_spec (a := (f p.1).num * p.2.den) (b := (f p.1).den * p.2.num) (Int.mul_pos (den_pos _) pn) (by rw [Int.natAbs_mul]; exact lim_of (mul_lt2 (n := n) (m := 40) fz.2 hz.1) (by omega))
    rw [← div_eq] at l1
    have qz : Sz (f p.1 / p.2) (n + 40) := fz.div hz (by grind)
    have q0 : 0 ≤ f p.1 / p.2 := by
      rw [Rat.div_def]
      exact Rat.mul_nonneg f0 (by have := Rat.inv_pos.mpr h0p; grind)
    have qe : f p.1 / p.2 * p.2 = f p.1 := Rat.div_mul_cancel (by grind)
    -- the lesser of two
    obtain ⟨ν, e, n1, n2, n3⟩ : ∃ ν, B__law_share_1 (V__law_share r net st dk (optD μ) (.int p.1) (fr p.2) c) = .nx (V__law_share r net st dk (fr ν) (.int p.1) (fr p.2) (fr (f p.1 / p.2))) ∧ (0 ≤ ν ∧ Sz ν (n + 40)) ∧ ν ≤ f p.1 / p.2 ∧ ∀ v, μ = some v → ν ≤ v := by
      subst hst
      have ix := frR_at (f := f) hp
      cases μ with
      | none => exact ⟨f p.1 / p.2, by simp [B__law_share_1, ix, m1, m2, l1, optD], ⟨q0, qz⟩, Rat.le_refl, fun v hv => by cases hv⟩
      | some v =>
        obtain ⟨v0, vz⟩ := hμ v rfl
        have s1 := less_spec qz vz (by omega)
        by_cases hl : f p.1 / p.2 < v
        · exact ⟨f p.1 / p.2, by simp [B__law_share_1, ix, m1, m2, l1, optD, s1, hl], ⟨q0, qz⟩, Rat.le_refl, fun w hw => by cases hw; grind⟩
        · exact ⟨v, by simp [B__law_share_1, ix, m1, m2, l1, optD, s1, hl], ⟨v0, vz⟩, by grind, fun w hw => by cases hw; exact Rat.le_refl⟩
    obtain ⟨μ', a', b', c', e2, g1, g2⟩ := share_loop hst hf h0 hn s (some ν) (.int p.1) (fr p.2) (fr (f p.1 / p.2)) h.tail (fun v hv => by cases hv; exact n1)
    refine ⟨μ', a', b', c', ?_, fun v' hv' => ?_, fun hν => by have := (g2 hν).2; cases this⟩
    · simp only [sideL] at e2 ⊢
      rw [List.map_cons, forL]
      simp only [row, T__law_share_1, gT_app, List.length_cons, List.length_nil, if_true, gsC_app, gN_app, Option.bind_some, gsN_app, List.set_cons_succ, List.set_cons_zero]
      rw [e]
      exact e2
    · obtain ⟨w1, w2, w3, w4⟩ := g1 v' hv'
      have w5 := w4 ν rfl
      refine ⟨w1, w2, fun q hq => ?_, fun v hv => ?_⟩
      · rcases List.mem_cons.mp hq with rfl | hq
        · have := Rat.mul_le_mul_of_nonneg_right (show v' ≤ f q.1 / q.2 by grind) (show 0 ≤ q.2 by grind)
          rw [qe] at this
          exact this
        · exact w3 q hq
      · have := n3 v hv
        grind

theorem times_raw {a b c d : Int} {n m : Nat} (ha : a.natAbs < 2 ^ n) (hb : b.natAbs < 2 ^ n) (hc : c.natAbs < 2 ^ m) (hd : d.natAbs < 2 ^ m) (b0 : 0 < b) (d0 : 0 < d) (h : n + m ≤ 8999) : m__law_times [.tup [.int a, .int b], .tup [.int c, .int d]] = .ok (fr (Rat.divInt (a * c) (b * d)), .dead) := by
  have e1 := mulD_sz ha hc (by omega)
  have e2 := mulD_sz hb hd (by omega)
  have e3 := lowest_spec (a := a * c) (Int.mul_pos b0 d0) (by rw [Int.natAbs_mul]; exact lim_of (mul_lt2 hb hd) h)
  simp [m__law_times, b__law_times, e1, e2, e3]
theorem fr_tup (q : Rat) : fr q = .tup [.int q.num, .int (q.den : Int)] := rfl
theorem divInt_le_of {a : Int} {w : Rat} (h : (a : Rat) ≤ w * 5040) : Rat.divInt a 5040 ≤ w := by
  rw [Rat.divInt_eq_div]
  have h2 : (a : Rat) / ((5040 : Int) : Rat) * ((5040 : Int) : Rat) = a := Rat.div_mul_cancel (by decide)
  have e : ((5040 : Int) : Rat) = 5040 := rfl
  rw [e] at h2 ⊢
  grind
theorem mul_den (w : Rat) : w * (w.den : Rat) = (w.num : Rat) := by
  have h := Rat.num_divInt_den w
  rw [Rat.divInt_eq_div] at h
  have hd : ((w.den : Int) : Rat) ≠ 0 := by
    intro e
    have := Rat.intCast_eq_zero_iff.mp e
    exact den0 w this
  have h2 := Rat.div_mul_cancel (a := (w.num : Rat)) hd
  rw [h, Rat.intCast_natCast] at h2
  exact h2
theorem num_le {w : Rat} {B : Nat} (h0 : 0 ≤ w) (h : w ≤ (B : Rat)) : w.num ≤ B * w.den := by
  have h1 : w * w.den = w.num := mul_den w
  have hd : (0 : Rat) ≤ (w.den : Rat) := by exact_mod_cast Nat.zero_le _
  have h2 := Rat.mul_le_mul_of_nonneg_right h hd
  rw [h1] at h2
  exact_mod_cast h2
theorem cut_part {w : Rat} (h0 : 0 ≤ w) (hw : w ≤ ((10 ^ 6 : Nat) : Rat)) : ∃ t b : Int, (if (5040 : Int) % (w.den : Int) = 0 then t = w.num ∧ b = w.den else t = w.num * 5040 / w.den ∧ b = 5040) ∧ 0 < b ∧ b < 2 ^ 34 ∧ 0 ≤ Rat.divInt t b ∧ Rat.divInt t b ≤ w ∧ Sz (Rat.divInt t b) 34 := by
  have hn := Rat.num_nonneg.mpr h0
  have hd := den_pos w
  have hb := num_le h0 hw
  by_cases h : (5040 : Int) % (w.den : Int) = 0
  · have hdv : (w.den : Int) ≤ 5040 := Int.le_of_dvd (by decide) (Int.dvd_of_emod_eq_zero h)
    have e : Rat.divInt w.num w.den = w := Rat.num_divInt_den w
    refine ⟨w.num, w.den, by rw [if_pos h]; exact ⟨rfl, rfl⟩, hd, by omega, by rw [e]; exact h0, by rw [e]; exact Rat.le_refl, ?_⟩
    rw [e]
    refine ⟨?_, ?_⟩
    · have : ((10 ^ 6 : Nat) : Int) * w.den ≤ ((10 ^ 6 : Nat) : Int) * 5040 := Int.mul_le_mul_of_nonneg_left hdv (by decide)
      omega
    · omega
  · have t0 : 0 ≤ w.num * 5040 / w.den := Int.ediv_nonneg (by omega) (by omega)
    have t1 : w.num * 5040 / w.den ≤ ((10 ^ 6 : Nat) : Int) * 5040 := by
      have : w.num * 5040 ≤ (((10 ^ 6 : Nat) : Int) * 5040) * w.den := by
        have := Int.mul_le_mul_of_nonneg_right hb (show (0 : Int) ≤ 5040 by decide)
        rw [Int.mul_right_comm] at this; exact this
      exact Int.ediv_le_of_le_mul hd this
    refine ⟨w.num * 5040 / w.den, 5040, by rw [if_neg h]; exact ⟨rfl, rfl⟩, by decide, by decide, Rat.divInt_nonneg t0 (by decide), divInt_le_of ?_, sz_divInt (by decide) (by omega) (by decide)⟩
    have h1 : w.num * 5040 / w.den * w.den ≤ w.num * 5040 := Int.ediv_mul_le _ (by omega)
    have h2 : ((w.num * 5040 / w.den * w.den : Int) : Rat) ≤ ((w.num * 5040 : Int) : Rat) := by exact_mod_cast h1
    have h3 : w * w.den = w.num := mul_den w
    have hdq : (0 : Rat) < (w.den : Rat) := by exact_mod_cast w.den_pos
    push_cast at h2
    rw [← h3] at h2
    have h4 : ((w.num * 5040 / w.den : Int) : Rat) * (w.den : Rat) ≤ w * 5040 * (w.den : Rat) := by
      have e : w * (w.den : Rat) * 5040 = w * 5040 * (w.den : Rat) := by grind
      rw [← e]; push_cast; exact h2
    exact Rat.le_of_mul_le_mul_right h4 hdq
end Fl

/-! Fl: walks drawn, and what the defs of runs reckon. -/
namespace Fl
open PySem
theorem share_draw {m : Nat} {ds : List Deed} {r : D} {f : Nat → Rat} {n k : Nat} {o : Bool} (h : NetOk m ds) (hr : RoomOk r) (hk : k < ds.length) (hf : VSz m f n) (h0 : ∀ j, j < m → 0 ≤ f j) (hn : 2 * n + 200 ≤ 8900) :
    ∃ q r', m__law_share [r, netD false m ds, .lst o (frR m f), .int k] = .ok (fr q, r') ∧ RoomOk r' ∧ Sz q 34 ∧ 0 ≤ q ∧ canD ds (k, q) f := by
  have hd := h.dd k
  obtain ⟨μ, a, b, c, e, g1, g2⟩ := share_loop (o := o) (st := .lst o (frR m f)) (r := r) (net := netD false m ds) (dk := .int k) rfl hf h0 hn (dd ds k).1 none .dead .dead .dead hd.l (fun v hv => by cases hv)
  have hx := deeds_dd (o := false) hk
  cases μ with
  | none =>
    obtain ⟨x, r1, e1, hr1, x0, x1⟩ := take_spec hr (n := 6) (by decide) (by decide)
    obtain ⟨y, r2, e2, hr2, y0, y1⟩ := take_spec hr1 (n := 2) (by decide) (by decide)
    have hs := (g2 rfl).1
    refine ⟨Rat.divInt (1 + x) (1 + y), r2, ?_, hr2, sz_divInt (by omega) (by omega) (by omega), Rat.divInt_nonneg (by omega) (by omega), fun p hp => by rw [hs] at hp; simp at hp⟩
    simp only [optD] at e
    simp [m__law_share, b__law_share, hx, e, optD, e1, e2, hr.nd, hr1.nd, hr2.nd, lowest_spec (a := 1 + x) (b := 1 + y) (by omega) (lim60 (by omega))]
  | some v =>
    obtain ⟨v0, vz, v1, _⟩ := g1 v rfl
    obtain ⟨x, r1, e1, hr1, x0, x1⟩ := take_spec hr (n := 4) (by decide) (by decide)
    obtain ⟨y, r2, e2, hr2, y0, y1⟩ := take_spec hr1 (n := 2) (by decide) (by decide)
    obtain ⟨tp, t1, t2⟩ := pickI (xs := [1, 1, 2, 3]) x0 x1
    obtain ⟨s, s1, s2⟩ := pickI (xs := [0, 1]) y0 y1
    have tb : 1 ≤ tp ∧ tp ≤ 3 := by simp at t1; omega
    have sb : 0 ≤ s ∧ s ≤ 1 := by simp at s1; omega
    simp only [List.map_cons, List.map_nil] at t2 s2
    have p6 : fPow (.int 10) (.int 6) = some (.int 1000000) := rfl
    have c6 : D.tup [.int 1000000, .int 1] = fr 1000000 := rfl
    have z6 : Sz 1000000 20 := ⟨by decide, by decide⟩
    have l6 := less_spec z6 vz (by omega)
    -- the most, cut
    obtain ⟨w, hw0, hwz, hwv, hw6, hwe⟩ : ∃ w : Rat, 0 ≤ w ∧ Sz w (n + 40) ∧ w ≤ v ∧ w ≤ ((10 ^ 6 : Nat) : Rat) ∧ w = if (1000000 : Rat) < v then 1000000 else v := by
      have e6 : ((10 ^ 6 : Nat) : Rat) = 1000000 := rfl
      by_cases hl : (1000000 : Rat) < v
      · exact ⟨1000000, by decide, z6.mono (by omega), by grind, by rw [e6]; exact Rat.le_refl, by rw [if_pos hl]⟩
      · exact ⟨v, v0, vz, Rat.le_refl, by rw [e6]; grind, by rw [if_neg hl]⟩
    have tz : tp.natAbs < 2 ^ 2 := by omega
    have sz : (tp + s).natAbs < 2 ^ 3 := by omega
    have tr := times_raw (a := w.num) (b := w.den) (c := tp) (d := tp + s) (m := 3) hwz.1 hwz.2 (by omega) sz (den_pos w) (by omega) (by omega)
    rw [← fr_tup] at tr
    -- the part
    obtain ⟨u, hu⟩ : ∃ u, u = Rat.divInt (w.num * tp) (w.den * (tp + s)) := ⟨_, rfl⟩
    rw [← hu] at tr
    have hue : u = w * Rat.divInt tp (tp + s) := by
      rw [hu]
      conv => rhs; rw [← Rat.num_divInt_den w]
      exact (Rat.divInt_mul_divInt _ _).symm
    have d0 : 0 ≤ Rat.divInt tp (tp + s) := Rat.divInt_nonneg (by omega) (by omega)
    have d1 : Rat.divInt tp (tp + s) ≤ 1 := by
      rw [Rat.divInt_eq_div]
      have hp : (0 : Rat) < ((tp + s : Int) : Rat) := Rat.intCast_pos.mpr (by omega)
      have h1 : (tp : Rat) ≤ ((tp + s : Int) : Rat) := Rat.intCast_le_intCast.mpr (by omega)
      have h2 : (tp : Rat) / ((tp + s : Int) : Rat) * ((tp + s : Int) : Rat) = tp := Rat.div_mul_cancel (by grind)
      refine Rat.le_of_mul_le_mul_right ?_ hp
      rw [h2, Rat.one_mul]; exact h1
    have u0 : 0 ≤ u := by rw [hue]; exact Rat.mul_nonneg hw0 d0
    have uw : u ≤ w := by
      rw [hue]
      have := Rat.mul_le_mul_of_nonneg_left d1 hw0
      grind
    obtain ⟨t, b, tb1, b0, b1, q0, q1, q2⟩ := cut_part u0 (Rat.le_trans uw hw6)
    have le2 := lowest_spec (a := t) (b := b) b0 (lim60 (by omega))
    refine ⟨Rat.divInt t b, r2, ?_, hr2, q2, q0, fun p hp => ?_⟩
    · have hm := fMod_of (a := 5040) (den_pos u)
      have uz : Sz u 8000 := by rw [hue]; exact (hwz.mul (sz_divInt (n := 3) (by omega) (by omega) (by omega))).mono (by omega)
      have m5 : mulD (.int u.num) (.int 5040) = some (.int (u.num * 5040)) := mulD_sz uz.1 (show (5040 : Int).natAbs < 2 ^ 13 by decide) (by decide)
      have d5 := fDiv_of (a := u.num * 5040) (b := u.den) (den_pos u) (Nat.lt_of_lt_of_le (log2_lt (k := 8000) uz.2 (by decide)) (by decide))
      simp only [optD] at e
      have hwD : (if (1000000 : Rat) < v then fr 1000000 else fr v) = fr w := by rw [hwe]; split <;> rfl
      by_cases hl : (1000000 : Rat) < v
      · rw [if_pos hl] at hwe
        subst hwe
        by_cases h5 : (5040 : Int) % (u.den : Int) = 0
        · rw [if_pos h5] at tb1
          obtain ⟨rfl, rfl⟩ := tb1
          simp [m__law_share, b__law_share, hx, e, optD, e1, e2, hr.nd, hr1.nd, hr2.nd, p6, c6, l6, hl, t2, s2, tr, hm, h5, le2]
        · rw [if_neg h5] at tb1
          obtain ⟨rfl, rfl⟩ := tb1
          simp [m__law_share, b__law_share, hx, e, optD, e1, e2, hr.nd, hr1.nd, hr2.nd, p6, c6, l6, hl, t2, s2, tr, hm, h5, m5, d5, le2]
      · rw [if_neg hl] at hwe
        subst hwe
        by_cases h5 : (5040 : Int) % (u.den : Int) = 0
        · rw [if_pos h5] at tb1
          obtain ⟨rfl, rfl⟩ := tb1
          simp [m__law_share, b__law_share, hx, e, optD, e1, e2, hr.nd, hr1.nd, hr2.nd, p6, c6, l6, hl, t2, s2, tr, hm, h5, le2]
        · rw [if_neg h5] at tb1
          obtain ⟨rfl, rfl⟩ := tb1
          simp [m__law_share, b__law_share, hx, e, optD, e1, e2, hr.nd, hr1.nd, hr2.nd, p6, c6, l6, hl, t2, s2, tr, hm, h5, m5, d5, le2]
    · have h1 := v1 p hp
      have h2 : Rat.divInt t b ≤ v := Rat.le_trans q1 (Rat.le_trans uw hwv)
      have h3 := Rat.mul_le_mul_of_nonneg_right h2 (show 0 ≤ p.2 by have := hd.l.pos p hp; grind)
      exact Rat.le_trans h3 h1

theorem forL_step {T : Tgt} {B : Stm} {d : D} {ds : List D} {env e1 e2 : Env} (h1 : T d env = some e1) (h2 : B e1 = .nx e2) : forL T B (d :: ds) env = forL T B ds e2 := by rw [forL_cons, h1]; dsimp only; rw [h2]
/-! ### steps drawn one behind the other -/
def stepsL (l : List Step) : List D := l.map stepD
@[simp] theorem sh_step (x : Step) : sh (stepD x) = stepD x := sh_row x
@[simp] theorem own_step (x : Step) : own (stepD x) = false := by simp [stepD, row]
@[simp] theorem isDead_step (x : Step) : isDead (stepD x) = false := rfl
@[simp] theorem clean_step (x : Step) : clean (stepD x) = true := rfl
@[simp] theorem shL_steps (l : List Step) : shL (stepsL l) = stepsL l := shL_map (fun _ => sh_step _) l
@[simp] theorem cleanL_steps (l : List Step) : cleanL (stepsL l) = true := cleanL_map (fun _ => rfl) l
@[simp] theorem stepsL_len (l : List Step) : (stepsL l).length = l.length := by simp [stepsL]
theorem step_def (k : Nat) (q : Rat) : D.tup [.int (k : Int), fr q] = stepD (k, q) := rfl
/-- steps of a net, each part above 0 and below a size -/
def StepsOk (ds : List Deed) (k : Nat) (l : List Step) : Prop := ∀ x ∈ l, x.1 < ds.length ∧ Sz x.2 k ∧ 0 < x.2
theorem StepsOk.nil {ds : List Deed} {k : Nat} : StepsOk ds k [] := fun x h => by simp at h
theorem StepsOk.app {ds : List Deed} {k : Nat} {a b : List Step} (h : StepsOk ds k a) (g : StepsOk ds k b) : StepsOk ds k (a ++ b) := fun x hx => (List.mem_append.mp hx).elim (h x) (g x)
theorem sumC_sz {m : Nat} {ds : List Deed} {k : Nat} (h : NetOk m ds) : ∀ {l : List Step}, StepsOk ds k l → VSz m (sumC ds l) (1 + l.length * (k + 82))
  | [], _, j, _ => zero_sz.mono (by simp)
  | x :: l, hl, j, hj => by
    have h1 := h.stC_sz (hl x (by simp)).2.1 j hj
    have h2 := sumC_sz h (l := l) (fun y hy => hl y (by simp [hy])) j hj
    exact (h1.add h2).mono (by simp only [List.length_cons, Nat.add_mul]; omega)
theorem canS_nn {ds : List Deed} {m : Nat} {k : Nat} (h : NetOk m ds) : ∀ {l : List Step} {f : Nat → Rat}, StepsOk ds k l → canS ds l f → (∀ j, j < m → 0 ≤ f j) → ∀ j, j < m → 0 ≤ f j + sumC ds l j
  | [], f, _, _, h0, j, hj => by rw [sumC, Rat.add_zero]; exact h0 j hj
  | x :: l, f, hl, hc, h0, j, hj => by
    have h1 : ∀ j, j < m → 0 ≤ f j + stC ds x j := fun j hj => by
      have hd := h.dd x.1
      have xp := (hl x (by simp)).2.2
      have r0 := Rat.mul_nonneg (show 0 ≤ x.2 by grind) (hd.r.amt_nn j)
      have key : x.2 * amt (dd ds x.1).1 j ≤ f j := by
        by_cases hp : ∃ p ∈ (dd ds x.1).1, p.1 = j
        · obtain ⟨p, hp, rfl⟩ := hp
          have e : amt (dd ds x.1).1 p.1 = p.2 := by
            have hs := hd.l
            generalize (dd ds x.1).1 = s at hp hs
            induction s with
            | nil => simp at hp
            | cons a t ih =>
              rcases List.mem_cons.mp hp with rfl | hp
              · rw [amt, if_pos rfl, hs.at, Rat.add_zero]
              · have : a.1 ≠ p.1 := by have := (List.pairwise_cons.mp hs.up).1 p hp; omega
                rw [amt, if_neg this, Rat.zero_add]
                exact ih hp hs.tail
          rw [e]; exact hc.1 p hp
        · have e : amt (dd ds x.1).1 j = 0 := amt_none fun p hp' z => hp ⟨p, hp', z⟩
          rw [e, Rat.mul_zero]; exact h0 j hj
      unfold stC chg
      grind
    have := canS_nn h (l := l) (fun y hy => hl y (by simp [hy])) hc.2 h1 j hj
    rw [sumC]; grind
theorem walked_draw {m : Nat} {ds : List Deed} {f : Nat → Rat} {n : Nat} {o : Bool} {rs : List D} (h : NetOk m ds) (hr : ∀ r ∈ rs, RoomOk r) (hf : VSz m f n) (h0 : ∀ j, j < m → 0 ≤ f j) (hn : 2 * (n + 117 * rs.length) + 400 ≤ 8900) (hl : rs.length ≤ 1000) :
    ∃ l o', m__law_walked [netD false m ds, .lst o (frR m f), .lst true rs] = .ok (.tup [.lst true (stepsL l), .lst o' (frR m fun j => f j + sumC ds l j)], .dead) ∧ StepsOk ds 34 l ∧ canS ds l f ∧ l.length ≤ rs.length := by
  have key : ∀ (rs : List D) (l : List Step) (g : Nat → Rat) (o2 : Bool) (a b c : D), (∀ r ∈ rs, RoomOk r) → VSz m g (n + 117 * l.length) → (∀ j, j < m → 0 ≤ g j) → 2 * (n + 117 * (l.length + rs.length)) + 400 ≤ 8900 → l.length + rs.length ≤ 1000 →
      ∃ l2 o3 a' b' c', forL T__law_walked_1 B__law_walked_1 rs (V__law_walked (netD false m ds) (.lst o (frR m f)) .dead (.lst true (stepsL l)) (.lst o2 (frR m g)) a b c) =
        .nx (V__law_walked (netD false m ds) (.lst o (frR m f)) .dead (.lst true (stepsL (l ++ l2))) (.lst o3 (frR m fun j => g j + sumC ds l2 j)) a' b' c') ∧ StepsOk ds 34 l2 ∧ canS ds l2 g ∧ l2.length ≤ rs.length := by
    intro rs
    induction rs with
    | nil =>
      intro l g o2 a b c _ _ _ _ _
      exact ⟨[], o2, a, b, c, by simp [sumC, Rat.add_zero], StepsOk.nil, trivial, by simp⟩
    | cons r rs ih =>
      intro l g o2 a b c hr hg hg0 hn hl
      simp only [List.length_cons] at hn hl
      have hr0 := hr r (by simp)
      have hrs : ∀ r ∈ rs, RoomOk r := fun x hx => hr x (by simp [hx])
      by_cases hd : ds.length = 0
      · obtain ⟨l2, o3, a', b', c', e, e2, e3, e4⟩ := ih l g o2 r b c hrs hg hg0 (by omega) (by omega)
        refine ⟨l2, o3, a', b', c', ?_, e2, e3, by simp; omega⟩
        rw [forL_step rfl (e2 := V__law_walked (netD false m ds) (.lst o (frR m f)) .dead (.lst true (stepsL l)) (.lst o2 (frR m g)) r b c) (by simp [B__law_walked_1, hd])]
        exact e
      · have hdp : 0 < ds.length := by omega
        obtain ⟨k0, r1, e1, hr1, k1, k2⟩ := take_spec hr0 (n := (ds.length : Int)) (by omega) (by have := h.n; omega)
        obtain ⟨k, rfl⟩ : ∃ k : Nat, k0 = (k : Int) := ⟨k0.toNat, by omega⟩
        have hk : k < ds.length := by omega
        obtain ⟨q, r2, f1, hr2, q1, q2, q3⟩ := share_draw (o := false) h hr1 hk hg hg0 (by omega)
        have gt : ds ≠ [] := fun z => by rw [z] at hdp; simp at hdp
        by_cases hq : q = 0
        · subst hq
          obtain ⟨l2, o3, a', b', c', e, e2, e3, e4⟩ := ih l g false r2 (.int k) (fr 0) hrs hg hg0 (by omega) (by omega)
          refine ⟨l2, o3, a', b', c', ?_, e2, e3, by simp; omega⟩
          rw [forL_step rfl (e2 := V__law_walked (netD false m ds) (.lst o (frR m f)) .dead (.lst true (stepsL l)) (.lst false (frR m g)) r2 (.int k) (fr 0)) (by cases o2 <;> simp [B__law_walked_1, gt, e1, hr0.nd, hr1.nd, f1])]
          exact e
        · have qp : 0 < q := by grind
          have qn := num_pos qp
          have s1 := behind_spec (x := (k, q)) (o := false) h hk q1 hg (by omega)
          have sk : StepsOk ds 34 [(k, q)] := fun x hx => by simp at hx; subst hx; exact ⟨hk, q1, qp⟩
          have g1 : VSz m (fun j => g j + stC ds (k, q) j) (n + 117 * (l ++ [(k, q)]).length) := fun j hj => ((hg j hj).add (h.stC_sz (x := (k, q)) q1 j hj)).mono (by simp; omega)
          have g2 : ∀ j, j < m → 0 ≤ g j + stC ds (k, q) j := fun j hj => by
            have := canS_nn h sk ⟨q3, trivial⟩ hg0 j hj
            simpa [sumC, Rat.add_zero] using this
          obtain ⟨l2, o3, a', b', c', e, e2, e3, e4⟩ := ih (l ++ [(k, q)]) (fun j => g j + stC ds (k, q) j) true r2 (.int k) (fr q) hrs g1 g2 (by simp; omega) (by simp; omega)
          refine ⟨(k, q) :: l2, o3, a', b', c', ?_, sk.app e2, ⟨q3, e3⟩, by simp; omega⟩
          have hz : l.length < 100000 := by omega
          have ap : stepsL l ++ [stepD (k, q)] = stepsL (l ++ [(k, q)]) := by simp [stepsL]
          rw [forL_step rfl (e2 := V__law_walked (netD false m ds) (.lst o (frR m f)) .dead (.lst true (stepsL (l ++ [(k, q)]))) (.lst true (frR m fun j => g j + stC ds (k, q) j)) r2 (.int k) (fr q)) (by
            cases o2 <;> simp [B__law_walked_1, gt, e1, hr0.nd, hr1.nd, f1, qn, isLst, hz, step_def, s1, ap])]
          have ee : (fun j => g j + stC ds (k, q) j + sumC ds l2 j) = fun j => g j + sumC ds ((k, q) :: l2) j := by funext j; rw [sumC]; grind
          rw [ee, List.append_assoc] at e
          exact e
  obtain ⟨l, o3, a, b, c, e, e2, e3, e4⟩ := key rs [] f true .dead .dead .dead hr (fun j hj => (hf j hj).mono (by simp)) h0 (by simpa using hn) (by simpa using hl)
  refine ⟨l, o3, ?_, e2, e3, e4⟩
  rw [List.nil_append] at e
  have e0 : stepsL [] = [] := rfl
  rw [e0] at e
  cases o <;> simp [m__law_walked, b__law_walked, gList, itD, shI, e]
end Fl

/-! Fl: what the defs of runs reckon. -/
namespace Fl
open PySem
/-! ### rows by place -/
theorem lcL_zip {m : Nat} {T : Tgt} {b : Tst} {e : Exp} {vs : List Nat} {f g : Nat → Rat} {q : Nat → Rat} {env : Env} (h : ∀ j, j < m → ∃ e1 e2 e3, T (.tup [fr (f j), fr (g j)]) env = some e1 ∧ b e1 = .ok (true, e2) ∧ e e2 = .ok (fr (q j), e3) ∧ wipeD e3 vs = env) :
    lcL T b e vs (zipD (frR m f) (frR m g)) env = some (frR m q, env) := by
  rw [zip_frR (α := Nat)]
  exact lcL_map _ _ _ fun j hj => h j (by simpa using hj)
theorem zip_len2 {m : Nat} {f g : Nat → Rat} : (zipD (frR m f) (frR m g)).length = m := by simp [zipD]
theorem all_spec {m : Nat} {f g : Nat → Rat} {n k : Nat} {o o' : Bool} (hm : m ≤ 1000) (hf : VSz m f n) (hg : VSz m g k) (h : n + k ≤ 8900) : m__law_all [.lst o (frR m f), .lst o' (frR m g)] = .ok (.lst true (frR m fun j => f j + g j), .dead) := by
  have lc : ∀ env, env = V__law_all (.lst false (frR m f)) (.lst false (frR m g)) → C__law_all_1 (zipD (frR m f) (frR m g)) env = some (frR m fun j => f j + g j, env) := fun env he => by
    subst he
    refine lcL_zip fun j hj => ?_
    exact ⟨_, _, _, rfl, rfl, by simp [sum_spec (hf j hj) (hg j hj) (by omega)]; rfl, rfl⟩
  have hz : (zipD (frR m f) (frR m g)).length ≤ 100000 := by rw [zip_len2]; omega
  cases o <;> cases o' <;> simp [m__law_all, b__law_all, hz, lc]
theorem scaled_spec {m : Nat} {f : Nat → Rat} {q : Rat} {n k : Nat} {o : Bool} (hm : m ≤ 1000) (hf : VSz m f n) (hq : Sz q k) (h : n + k ≤ 8900) : m__law_scaled [.lst o (frR m f), fr q] = .ok (.lst true (frR m fun j => f j * q), .dead) := by
  have lc : ∀ env, env = V__law_scaled (.lst false (frR m f)) (fr q) → C__law_scaled_1 (frR m f) env = some (frR m fun j => f j * q, env) := fun env he => by
    subst he
    refine lcL_map (List.range m) _ _ fun j hj => ?_
    have hj : j < m := by simpa using hj
    exact ⟨_, _, _, rfl, rfl, by simp [times_spec (hf j hj) hq (by omega)]; rfl, rfl⟩
  have hz : m ≤ 100000 := by omega
  cases o <;> simp [m__law_scaled, b__law_scaled, hz, lc]

/-! ### what steps change -/
theorem change_of_steps_spec {m : Nat} {ds : List Deed} {k : Nat} {l : List Step} {o : Bool} (h : NetOk m ds) (hl : StepsOk ds k l) (hn : (l.length + 2) * (k + 82) ≤ 8800) (hz : l.length ≤ 1000) :
    m_change_of_steps [netD false m ds, .lst o (stepsL l)] = .ok (.lst true (frR m (sumC ds l)), .dead) := by
  have key : ∀ (st : D) (l : List Step) (g : Nat → Rat) (n : Nat) (a b c d : D), StepsOk ds k l → VSz m g n → n + l.length * (k + 82) + k + 142 ≤ 8900 →
      ∃ a' b' c' d', forL T_change_of_steps_3 B_change_of_steps_3 (stepsL l) (V_change_of_steps (netD false m ds) st (.lst true (frR m g)) a b c d) =
        .nx (V_change_of_steps (netD false m ds) st (.lst true (frR m fun j => g j + sumC ds l j)) a' b' c' d') := by
    intro st l
    induction l with
    | nil => intro g n a b c d _ _ _; exact ⟨a, b, c, d, by simp [stepsL, sumC, Rat.add_zero]⟩
    | cons x l ih =>
      intro g n a b c d hl hg hn
      simp only [List.length_cons, Nat.add_mul] at hn
      obtain ⟨x1, x2, x3⟩ := hl x (by simp)
      have hd := h.dd x.1
      have hqa : ∀ {a : Rat}, Sz a 40 → Sz (x.2 * a) (k + 40) := fun ha => x2.mul ha
      obtain ⟨ea, h1, a1, b1, rfl⟩ := loop_side (m := m) (T := T_change_of_steps_1) (B := B_change_of_steps_1) (c := fun a => -(x.2 * a)) (J := fun _ q => Sz q n)
        (I := fun g env => ∃ a b, env = V_change_of_steps (netD false m ds) st (.lst true (frR m g)) (.int x.1) (fr x.2) a b)
        (fun g p env hi hp hz h0 hj => by
          obtain ⟨a, b, rfl⟩ := hi
          have s1 := timed_spec x2 hz (by omega)
          have s2 := lessened_spec hj (hqa hz) (by omega)
          rw [Rat.sub_eq_add_neg] at s2
          refine ⟨_, _, rfl, .inl ?_, .int p.1, fr p.2, rfl⟩
          simp [B_change_of_steps_1, s1, frR_at hp, s2, ixN_k hp, frR_set]) (dd ds x.1).1 g (V_change_of_steps (netD false m ds) st (.lst true (frR m g)) (.int x.1) (fr x.2) c d) hd.l (fun p hp => hg _ (hd.l.lt p hp)) ⟨c, d, rfl⟩
      have hg2 : VSz m (fun j => g j + amtc (fun a => -(x.2 * a)) (dd ds x.1).1 j) (n + k + 41) := fun j hj => by
        show Sz (g j + amtc (fun a => -(x.2 * a)) (dd ds x.1).1 j) _
        rw [amtc_nscale]
        exact ((hg j hj).add (hqa (hd.l.amt_sz j)).neg).mono (by omega)
      obtain ⟨eb, h2, a2, b2, rfl⟩ := loop_side (m := m) (T := T_change_of_steps_2) (B := B_change_of_steps_2) (c := fun a => x.2 * a) (J := fun _ q => Sz q (n + k + 41))
        (I := fun g env => ∃ a b, env = V_change_of_steps (netD false m ds) st (.lst true (frR m g)) (.int x.1) (fr x.2) a b)
        (fun g p env hi hp hz h0 hj => by
          obtain ⟨a, b, rfl⟩ := hi
          have s1 := timed_spec x2 hz (by omega)
          have s2 := added_spec hj (hqa hz) (by omega)
          refine ⟨_, _, rfl, .inl ?_, .int p.1, fr p.2, rfl⟩
          simp [B_change_of_steps_2, s1, frR_at hp, s2, ixN_k hp, frR_set]) (dd ds x.1).2 (fun j => g j + amtc (fun a => -(x.2 * a)) (dd ds x.1).1 j) _ hd.r (fun p hp => hg2 _ (hd.r.lt p hp)) ⟨a1, b1, rfl⟩
      have e3 : frR m (fun j => g j + amtc (fun a => -(x.2 * a)) (dd ds x.1).1 j + amtc (fun a => x.2 * a) (dd ds x.1).2 j) = frR m fun j => g j + stC ds x j := frR_ext fun j _ => by
        rw [amtc_nscale, amtc_scale]; unfold stC chg; grind
      rw [e3] at h2
      obtain ⟨a', b', c', d', e⟩ := ih (fun j => g j + stC ds x j) (n + k + 82) (.int x.1) (fr x.2) a2 b2 (fun y hy => hl y (by simp [hy])) (fun j hj => ((hg j hj).add (h.stC_sz x2 j hj)).mono (by omega)) (by omega)
      refine ⟨a', b', c', d', ?_⟩
      have ee : (fun j => g j + stC ds x j + sumC ds l j) = fun j => g j + sumC ds (x :: l) j := by funext j; rw [sumC]; grind
      rw [ee] at e
      show forL _ _ (stepD x :: stepsL l) _ = _
      rw [forL_step rfl (e2 := V_change_of_steps (netD false m ds) st (.lst true (frR m fun j => g j + stC ds x j)) (.int x.1) (fr x.2) a2 b2) (by simp [B_change_of_steps_3, deeds_dd x1, h1, h2])]
      exact e
  obtain ⟨a, b, c, d, e⟩ := key (.lst false (stepsL l)) l (fun _ => 0) 1 .dead .dead .dead .dead hl (fun _ _ => zero_sz) (by simp only [Nat.add_mul] at hn; omega)
  have e0 : (fun j => 0 + sumC ds l j) = sumC ds l := by funext j; rw [Rat.zero_add]
  rw [e0] at e
  cases o <;> simp [m_change_of_steps, b_change_of_steps, fr0, mulD_zero h.mm, e]
theorem neg_tup (q : Rat) : D.tup [.int (0 - q.num), .int (q.den : Int)] = fr (-q) := by rw [Int.zero_sub]; exact fr_neg q
@[simp] theorem gT_fr {n : Nat} {ts : Tgts} {q : Rat} {env : Env} : gT n ts (fr q) env = if 2 = n then ts [.int q.num, .int (q.den : Int)] env else none := rfl
def natO : Option Nat → D
  | none => .non
  | some k => .int (k : Int)
theorem first_lack_spec {p q w : Rat} {R n k l : Nat} (hp : Sz p n) (hq : Sz q k) (hw : Sz w l) (h : n + k + l ≤ 8800) (hR : 0 < R) : m_first_lack [fr p, fr q, fr w, .int R] = .ok (natO (fl p q w R), .dead) := by
  have s1 := is_less_spec hp hw (by omega)
  unfold fl
  by_cases h1 : p < w
  · rw [if_pos h1]
    simp [m_first_lack, b_first_lack, s1, h1, natO]
  · rw [if_neg h1]
    have qn : (0 ≤ q.num) ↔ 0 ≤ q := Rat.num_nonneg
    by_cases h2 : R = 1
    · subst h2
      simp [m_first_lack, b_first_lack, s1, h1, natO]
    · have hR1 : ((R : Int) == 1) = false := by simp; omega
      by_cases h3 : 0 ≤ q
      · simp [m_first_lack, b_first_lack, s1, h1, natO, hR1, h3]
      · have h3' : ¬ 0 ≤ q.num := fun z => h3 (qn.mp z)
        rw [if_neg (by simp [h2, h3])]
        have s2 := lessened_spec hp hw (by omega)
        have s3 := divided_spec (hp.sub hw) hq.neg (by omega) (by grind)
        have sz3 := (hp.sub hw).div hq.neg (by grind)
        obtain ⟨z, hz⟩ : ∃ z, z = (p - w) / -q := ⟨_, rfl⟩
        rw [← hz] at s3 sz3 ⊢
        have z0 : 0 ≤ z := by
          rw [hz, Rat.div_def]
          exact Rat.mul_nonneg (by grind) (by have := Rat.inv_pos.mpr (show 0 < -q by grind); grind)
        have d1 := fDiv_of (a := z.num) (b := z.den) (den_pos z) (Nat.lt_of_lt_of_le (log2_lt (k := 8999) (lim_of sz3.2 (by omega)) (by decide)) (by decide))
        have f0 : 0 ≤ z.floor := Rat.le_floor_iff.mpr (by exact_mod_cast z0)
        have fd : z.num / (z.den : Int) = ((z.floor.toNat : Nat) : Int) := by rw [← Rat.floor_def]; omega
        rw [fd] at d1
        obtain ⟨u, hu⟩ : ∃ u, z.floor.toNat = u := ⟨_, rfl⟩
        rw [hu] at d1 ⊢
        by_cases h4 : R ≤ u + 1
        · rw [if_pos h4]
          have h4' : (R : Int) ≤ (u : Int) + 1 := by omega
          simp [m_first_lack, b_first_lack, s1, h1, natO, hR1, h3', s2, fr_neg, s3, d1, h4']
        · rw [if_neg h4]
          have h4' : ¬ (R : Int) ≤ (u : Int) + 1 := by omega
          simp [m_first_lack, b_first_lack, s1, h1, natO, hR1, h3', s2, fr_neg, s3, d1, h4']

/-! ### where a turn lacks -/
def lackD : Lack → D
  | none => .non
  | some x => .tup [.int (x.1 : Int), .int (x.2.1 : Int), .int (x.2.2 : Int)]
@[simp] theorem own_lack (x : Lack) : own (lackD x) = false := by cases x <;> rfl
@[simp] theorem isDead_lack (x : Lack) : isDead (lackD x) = false := by cases x <;> rfl
@[simp] theorem own_natO (x : Option Nat) : own (natO x) = false := by cases x <;> rfl
@[simp] theorem isDead_natO (x : Option Nat) : isDead (natO x) = false := by cases x <;> rfl
@[simp] theorem isNon_natO (x : Option Nat) : isNon (natO x) = some x.isNone := by cases x <;> rfl
@[simp] theorem isNon_lack (x : Lack) : isNon (lackD x) = some x.isNone := by cases x <;> rfl
theorem lackP_cons (c : Nat → Rat) (q : Rat) (R i : Nat) (f : Nat → Rat) (p : Nat × Rat) (s : Side) (found : Lack) : lackP c q R i f (p :: s) found = lackP c q R i f s (better found (fl (f p.1) (c p.1) (q * p.2) R) i p.1) := rfl
/-- over what a step takes: what is found, and what is held -/
theorem lack_loop {m : Nat} {net st tn rd stp : D} {R i : Nat} {c : Nat → Rat} {q : Rat} {n k l : Nat} {dk : D} (hR : 0 < R) (hrd : rd = .int R) (hc : VSz m c l) (hq : Sz q k) (hn : n + l + k + 200 ≤ 8800) :
    ∀ (s : Side) (f : Nat → Rat) (found : Lack) (a b d : D), SideOk m s → (∀ p ∈ s, Sz (f p.1) n) →
      ∃ a' b' d', forL T_lacks_in_1 B_lacks_in_1 (sideL s) (V_lacks_in net st tn rd stp (.lst true (frR m c)) (.lst true (frR m f)) (lackD found) (.int i) dk (fr q) a b d) =
        .nx (V_lacks_in net st tn rd stp (.lst true (frR m c)) (.lst true (frR m fun j => f j - q * amt s j)) (lackD (lackP c q R i f s found)) (.int i) dk (fr q) a' b' d')
  | [], f, found, a, b, d, _, _ => ⟨a, b, d, by
      have : (fun j => f j - q * amt [] j) = f := by funext j; rw [amt]; grind
      rw [this]; rfl⟩
  | p :: s, f, found, a, b, d, h, hf => by
    have hp := h.lt p (by simp)
    have hz := h.sz p (by simp)
    have pz := hf p (by simp)
    have qz := hq.mul hz
    have s1 := timed_spec hq hz (by omega)
    have s2 := first_lack_spec pz (hc p.1 hp) qz (by omega) hR
    have s3 := lessened_spec pz qz (by omega)
    obtain ⟨a', b', d', e⟩ := lack_loop hR hrd hc hq hn s (updF f p.1 (f p.1 - q * p.2)) (better found (fl (f p.1) (c p.1) (q * p.2) R) i p.1) (.int p.1) (fr p.2) (natO (fl (f p.1) (c p.1) (q * p.2) R)) h.tail (fun r hr => by
      have : r.1 ≠ p.1 := by have := (List.pairwise_cons.mp h.up).1 r hr; omega
      rw [updF, if_neg this]
      exact hf r (by simp [hr]))
    refine ⟨a', b', d', ?_⟩
    have e1 : (fun j => updF f p.1 (f p.1 - q * p.2) j - q * amt s j) = fun j => f j - q * amt (p :: s) j := by
      funext j
      rw [amt]
      unfold updF
      by_cases hj : j = p.1
      · subst hj; rw [if_pos rfl, if_pos rfl]; grind
      · rw [if_neg hj, if_neg (fun z => hj z.symm)]; grind
    have e2 : lackP c q R i (updF f p.1 (f p.1 - q * p.2)) s (better found (fl (f p.1) (c p.1) (q * p.2) R) i p.1) = lackP c q R i f (p :: s) found := by
      rw [lackP_cons]
      have : ∀ (t : Side) (z : Lack), (∀ r ∈ t, r.1 ≠ p.1) → lackP c q R i (updF f p.1 (f p.1 - q * p.2)) t z = lackP c q R i f t z := by
        intro t
        induction t with
        | nil => intro z _; rfl
        | cons y t ih =>
          intro z hy
          rw [lackP_cons, lackP_cons, ih _ fun r hr => hy r (by simp [hr])]
          have : updF f p.1 (f p.1 - q * p.2) y.1 = f y.1 := if_neg (hy y (by simp))
          rw [this]
      exact this s _ fun r hr => by have := (List.pairwise_cons.mp h.up).1 r hr; omega
    rw [e1, e2] at e
    show forL _ _ (row p :: sideL s) _ = _
    rw [forL_step rfl (e2 := V_lacks_in net st tn rd stp (.lst true (frR m c)) (.lst true (frR m (updF f p.1 (f p.1 - q * p.2)))) (lackD (better found (fl (f p.1) (c p.1) (q * p.2) R) i p.1)) (.int i) dk (fr q) (.int p.1) (fr p.2) (natO (fl (f p.1) (c p.1) (q * p.2) R))) ?_]
    · exact e
    · subst hrd
      have ix := frR_at (f := f) hp
      have ic := frR_at (f := c) hp
      cases hfl : fl (f p.1) (c p.1) (q * p.2) R with
      | none =>
        rw [hfl] at s2
        simp [B_lacks_in_1, ix, ic, s1, s2, s3, ixN_k hp, frR_set, better]
      | some u =>
        rw [hfl] at s2
        cases found with
        | none => simp [B_lacks_in_1, ix, ic, s1, s2, s3, ixN_k hp, frR_set, better, natO, lackD]
        | some x =>
          by_cases hu : u < x.1
          · simp [B_lacks_in_1, ix, ic, s1, s2, s3, ixN_k hp, frR_set, better, natO, lackD, hu]
          · simp [B_lacks_in_1, ix, ic, s1, s2, s3, ixN_k hp, frR_set, better, natO, lackD, hu]

def turnD (o : Bool) (t : Turn) : D := .tup [.int (t.1 : Int), .lst o (stepsL t.2)]
@[simp] theorem sh_turn (o : Bool) (t : Turn) : sh (turnD o t) = turnD false t := by simp [turnD]
@[simp] theorem isDead_turn (o : Bool) (t : Turn) : isDead (turnD o t) = false := rfl
@[simp] theorem own_turn (t : Turn) : own (turnD false t) = false := by simp [turnD]
@[simp] theorem gT_turn {n : Nat} {ts : Tgts} {o : Bool} {t : Turn} {env : Env} : gT n ts (turnD o t) env = if 2 = n then ts [.int (t.1 : Int), .lst o (stepsL t.2)] env else none := rfl
@[simp] theorem ixD_turn0 (o : Bool) (t : Turn) : ixD (turnD o t) 0 = some (.int (t.1 : Int)) := by simp [turnD]
@[simp] theorem ixD_turn1 (o : Bool) (t : Turn) : ixD (turnD o t) 1 = some (.lst o (stepsL t.2)) := by simp [turnD]
def turnsL (o : Bool) (r : List Turn) : List D := r.map (turnD o)
@[simp] theorem shL_turns (o : Bool) (r : List Turn) : shL (turnsL o r) = turnsL false r := by
  unfold turnsL
  induction r with
  | nil => rfl
  | cons a l ih => simp [ih]
@[simp] theorem turnsL_len (o : Bool) (r : List Turn) : (turnsL o r).length = r.length := by simp [turnsL]
def enumF : Nat → List D → List D
  | _, [] => []
  | i, d :: l => .tup [.int (i : Int), d] :: enumF (i + 1) l
theorem enumF_get : ∀ (l : List D) (i j : Nat), (enumF i l)[j]? = (l[j]?).map fun d => .tup [.int ((i + j : Nat) : Int), d]
  | [], i, j => by simp [enumF]
  | d :: l, i, 0 => by simp [enumF]
  | d :: l, i, j + 1 => by
    simp only [enumF, List.getElem?_cons_succ]
    rw [enumF_get l (i + 1) j, show i + 1 + j = i + (j + 1) by omega]
theorem enumD_eq (l : List D) : enumD l = enumF 0 l := by
  apply List.ext_getElem?
  intro j
  rw [enumF_get]
  unfold enumD
  rw [List.getElem?_mapIdx]
  simp
@[simp] theorem clean_turn (t : Turn) : clean (turnD true t) = true := by simp [turnD]
@[simp] theorem cleanL_turns (r : List Turn) : cleanL (turnsL true r) = true := cleanL_map (fun _ => clean_turn _) r
theorem lacks_in_spec {m : Nat} {ds : List Deed} {k n : Nat} {t : Turn} {f : Nat → Rat} {o : Bool} (h : NetOk m ds) (hl : StepsOk ds k t.2) (hz : t.2.length ≤ 1000) (hR : 0 < t.1) (hf : VSz m f n) (hn : n + 2 * ((t.2.length + 3) * (k + 82)) ≤ 8000) :
    m_lacks_in [netD false m ds, .lst o (frR m f), turnD false t] = .ok (lackD (lackT ds t.1 t.2 f), .dead) := by
  obtain ⟨R, steps⟩ := t
  simp only at hl hz hR hn ⊢
  simp only [Nat.add_mul] at hn
  have key : ∀ (l : List Step) (i : Nat) (g : Nat → Rat) (n2 : Nat) (found : Lack) (a b c d e' z : D), StepsOk ds k l → VSz m g n2 → n2 + l.length * (k + 82) + steps.length * (k + 82) + 2 * (k + 82) + 200 ≤ 8000 →
      ∃ a' b' c' d' e2 z', forL T_lacks_in_3 B_lacks_in_3 (enumF i (stepsL l)) (V_lacks_in (netD false m ds) (.lst o (frR m f)) (turnD false (R, steps)) (.int R) (.lst false (stepsL steps)) (.lst true (frR m (sumC ds steps))) (.lst true (frR m g)) (lackD found) a b c d e' z) =
        .nx (V_lacks_in (netD false m ds) (.lst o (frR m f)) (turnD false (R, steps)) (.int R) (.lst false (stepsL steps)) (.lst true (frR m (sumC ds steps))) (.lst true (frR m fun j => g j + sumC ds l j)) (lackD (lackS ds (sumC ds steps) R l i g found)) a' b' c' d' e2 z') := by
    intro l
    induction l with
    | nil => intro i g n2 found a b c d e' z _ _ _; exact ⟨a, b, c, d, e', z, by simp [stepsL, enumF, sumC, lackS, Rat.add_zero]⟩
    | cons x l ih =>
      intro i g n2 found a b c d e' z hl hg hn
      simp only [List.length_cons, Nat.add_mul] at hn
      obtain ⟨x1, x2, x3⟩ := hl x (by simp)
      have hd := h.dd x.1
      have hqa : ∀ {a : Rat}, Sz a 40 → Sz (x.2 * a) (k + 40) := fun ha => x2.mul ha
      have hsz := sumC_sz h ‹StepsOk ds k steps›
      obtain ⟨a1, b1, d1, h1⟩ := lack_loop (net := netD false m ds) (st := .lst o (frR m f)) (tn := turnD false (R, steps)) (rd := .int R) (stp := .lst false (stepsL steps)) (dk := .int x.1) (i := i) hR rfl hsz x2 (n := n2) (by omega) (dd ds x.1).1 g found d e' z hd.l (fun p hp => hg _ (hd.l.lt p hp))
      have hg2 : VSz m (fun j => g j - x.2 * amt (dd ds x.1).1 j) (n2 + k + 41) := fun j hj => ((hg j hj).sub (hqa (hd.l.amt_sz j))).mono (by omega)
      obtain ⟨LP, hLP⟩ : ∃ LP, LP = lackP (sumC ds steps) x.2 R i g (dd ds x.1).1 found := ⟨_, rfl⟩
      rw [← hLP] at h1
      obtain ⟨eb, h2, a2, b2, rfl⟩ := loop_side (m := m) (T := T_lacks_in_2) (B := B_lacks_in_2) (c := fun a => x.2 * a) (J := fun _ q => Sz q (n2 + k + 41))
        (I := fun g env => ∃ a b, env = V_lacks_in (netD false m ds) (.lst o (frR m f)) (turnD false (R, steps)) (.int R) (.lst false (stepsL steps)) (.lst true (frR m (sumC ds steps))) (.lst true (frR m g)) (lackD LP) (.int i) (.int x.1) (fr x.2) a b d1)
        (fun g p env hi hp hz h0 hj => by
          obtain ⟨a, b, rfl⟩ := hi
          have s1 := timed_spec x2 hz (by omega)
          have s2 := added_spec hj (hqa hz) (by omega)
          refine ⟨_, _, rfl, .inl ?_, .int p.1, fr p.2, rfl⟩
          simp [B_lacks_in_2, s1, frR_at hp, s2, ixN_k hp, frR_set]) (dd ds x.1).2 (fun j => g j - x.2 * amt (dd ds x.1).1 j) _ hd.r (fun p hp => hg2 _ (hd.r.lt p hp)) ⟨a1, b1, rfl⟩
      have e3 : frR m (fun j => g j - x.2 * amt (dd ds x.1).1 j + amtc (fun a => x.2 * a) (dd ds x.1).2 j) = frR m fun j => g j + stC ds x j := frR_ext fun j _ => by
        rw [amtc_scale]; unfold stC chg; grind
      rw [e3] at h2
      obtain ⟨a', b', c', d', e2, z', e⟩ := ih (i + 1) (fun j => g j + stC ds x j) (n2 + k + 82) LP (.int i) (.int x.1) (fr x.2) a2 b2 d1 (fun y hy => hl y (by simp [hy])) (fun j hj => ((hg j hj).add (h.stC_sz x2 j hj)).mono (by omega)) (by omega)
      refine ⟨a', b', c', d', e2, z', ?_⟩
      have ee : (fun j => g j + stC ds x j + sumC ds l j) = fun j => g j + sumC ds (x :: l) j := by funext j; rw [sumC]; grind
      rw [ee, hLP] at e
      rw [hLP] at h1 h2
      show forL _ _ (.tup [.int (i : Int), stepD x] :: enumF (i + 1) (stepsL l)) _ = _
      rw [forL_step (e1 := V_lacks_in (netD false m ds) (.lst o (frR m f)) (turnD false (R, steps)) (.int R) (.lst false (stepsL steps)) (.lst true (frR m (sumC ds steps))) (.lst true (frR m g)) (lackD found) (.int i) (.int x.1) (fr x.2) d e' z) rfl (e2 := V_lacks_in (netD false m ds) (.lst o (frR m f)) (turnD false (R, steps)) (.int R) (.lst false (stepsL steps)) (.lst true (frR m (sumC ds steps))) (.lst true (frR m fun j => g j + stC ds x j)) (lackD (lackP (sumC ds steps) x.2 R i g (dd ds x.1).1 found)) (.int i) (.int x.1) (fr x.2) a2 b2 d1) (by simp [B_lacks_in_3, deeds_dd x1, h1, h2])]
      exact e
  obtain ⟨a, b, c, d, e', z', e⟩ := key steps 0 f n none .dead .dead .dead .dead .dead .dead hl hf (by omega)
  have s1 := change_of_steps_spec (o := false) h hl (by simp only [Nat.add_mul]; omega) hz
  rw [show lackD none = .non from rfl] at e
  cases o <;> simp [m_lacks_in, b_lacks_in, gList, itD, shI, s1, enumD_eq, e, lackT]

/-! ### a run walked -/
structure TurnOk (ds : List Deed) (k L ρ : Nat) (t : Turn) : Prop where
  st : StepsOk ds k t.2
  len : t.2.length ≤ L
  pos : 0 < t.1
  lt : t.1 < 2 ^ ρ
theorem nat_sz {R ρ : Nat} (h : R < 2 ^ ρ) : Sz (R : Rat) (ρ + 1) := by
  have h1 : 0 < 2 ^ ρ := Nat.two_pow_pos ρ
  constructor
  · have : (R : Rat).num.natAbs = R := by simp
    rw [this, Nat.pow_succ]; omega
  · show 1 < _
    rw [Nat.pow_succ]; omega
theorem divInt_one (a : Int) : Rat.divInt a 1 = (a : Rat) := by
  rw [Rat.divInt_eq_div]
  have e : ((1 : Int) : Rat) = 1 := rfl
  rw [e]
  have := Rat.div_mul_cancel (a := (a : Rat)) (b := 1) (by decide)
  rwa [Rat.mul_one] at this
theorem fraction_nat (R : Nat) : m_fraction [.int (R : Int), .int 1] = .ok (fr (R : Rat), .dead) := by
  have := fraction_spec (a := (R : Int)) (b := 1) (by decide) (by
    have : (1 : Nat) < 2 ^ 8999 := Nat.one_lt_two_pow (by decide)
    simpa using this)
  rw [this, divInt_one]; rfl
theorem turnC_sz {m : Nat} {ds : List Deed} {k L ρ : Nat} {t : Turn} (h : NetOk m ds) (ht : TurnOk ds k L ρ t) : VSz m (turnC ds t) (ρ + 2 + L * (k + 82)) := fun j hj => by
  have h1 := sumC_sz h ht.st j hj
  have h2 : t.2.length * (k + 82) ≤ L * (k + 82) := Nat.mul_le_mul_right _ ht.len
  exact ((nat_sz ht.lt).mul h1).mono (by omega)
theorem walk_loop {m : Nat} {ds : List Deed} {k L ρ : Nat} {st rn : D} (h : NetOk m ds) (hL : L ≤ 1000) : ∀ (r : List Turn) (i : Nat) (f : Nat → Rat) (n : Nat) (a b c d : D), (∀ t ∈ r, TurnOk ds k L ρ t) → VSz m f n → canR ds r f → n + r.length * (ρ + 4 + L * (k + 82)) + 2 * ((L + 3) * (k + 82)) + ρ + 4 ≤ 8000 →
    ∃ a' b' c' d', forL T_walk_2 B_walk_2 (enumF i (turnsL false r)) (V_walk (netD false m ds) st rn (.lst true (frR m f)) a b c d) = .nx (V_walk (netD false m ds) st rn (.lst true (frR m fun j => f j + runC ds r j)) a' b' c' d')
  | [], i, f, n, a, b, c, d, _, _, _, _ => ⟨a, b, c, d, by simp [turnsL, enumF, runC, Rat.add_zero]⟩
  | t :: r, i, f, n, a, b, c, d, ht, hf, hc, hn => by
    simp only [List.length_cons, Nat.add_mul] at hn
    have t0 := ht t (by simp)
    have hlen : t.2.length * (k + 82) ≤ L * (k + 82) := Nat.mul_le_mul_right _ t0.len
    have s1 := lacks_in_spec (o := false) h t0.st (Nat.le_trans t0.len hL) t0.pos hf (by simp only [Nat.add_mul]; omega)
    rw [(lackT_none t0.pos).mpr hc.1] at s1
    have s2 := change_of_steps_spec (o := false) h t0.st (by simp only [Nat.add_mul]; omega) (Nat.le_trans t0.len hL)
    have s3 := fraction_nat t.1
    have tz := turnC_sz h t0
    have sz := sumC_sz h t0.st
    have rz := nat_sz t0.lt
    obtain ⟨a', b', c', d', e⟩ := walk_loop (st := st) (rn := rn) h hL r (i + 1) (fun j => f j + turnC ds t j) (n + ρ + 3 + L * (k + 82)) (.int i) (turnD false t) .non (fr (t.1 : Rat)) (fun x hx => ht x (by simp [hx])) (fun j hj => ((hf j hj).add (tz j hj)).mono (by omega)) hc.2 (by simp only [Nat.add_mul]; omega)
    refine ⟨a', b', c', d', ?_⟩
    have ee : (fun j => f j + turnC ds t j + runC ds r j) = fun j => f j + runC ds (t :: r) j := by funext j; rw [runC]; grind
    rw [ee] at e
    have lc : ∀ env, env = V_walk (netD false m ds) st rn (.lst false (frR m f)) (.int i) (turnD false t) .non (fr (t.1 : Rat)) → C_walk_1 (zipD (frR m f) (frR m (sumC ds t.2))) env = some (frR m fun j => f j + turnC ds t j, env) := fun env he => by
      subst he
      refine lcL_zip fun j hj => ?_
      exact ⟨_, _, _, rfl, rfl, by simp [timed_spec rz (sz j hj) (by omega), added_spec (hf j hj) (rz.mul (sz j hj)) (by omega)]; exact ⟨rfl, rfl⟩, rfl⟩
    have hz : (zipD (frR m f) (frR m (sumC ds t.2))).length ≤ 100000 := by rw [zip_len2]; have := h.mm; omega
    show forL _ _ (.tup [.int (i : Int), turnD false t] :: enumF (i + 1) (turnsL false r)) _ = _
    rw [forL_step rfl (e2 := V_walk (netD false m ds) st rn (.lst true (frR m fun j => f j + turnC ds t j)) (.int i) (turnD false t) .non (fr (t.1 : Rat))) (by simp [B_walk_2, s1, lackD, s2, s3, hz, lc])]
    exact e
theorem walk_spec {m : Nat} {ds : List Deed} {k L ρ n : Nat} {r : List Turn} {f : Nat → Rat} {o o2 o3 : Bool} (h : NetOk m ds) (hL : L ≤ 1000) (hr : ∀ t ∈ r, TurnOk ds k L ρ t) (hf : VSz m f n) (hc : canR ds r f) (hn : n + r.length * (ρ + 4 + L * (k + 82)) + 2 * ((L + 3) * (k + 82)) + ρ + 4 ≤ 8000) (ho : o2 = false → o3 = false := by simp) :
    m_walk [netD false m ds, .lst o (frR m f), .lst o2 (turnsL o3 r)] = .ok (.lst true (frR m fun j => f j + runC ds r j), .dead) := by
  obtain ⟨a, b, c, d, e⟩ := walk_loop (st := .lst o (frR m f)) (rn := .lst false (turnsL false r)) h hL r 0 f n .dead .dead .dead .dead hr hf hc hn
  have ho' := ho
  cases o <;> cases o2 <;> simp at ho' <;> (try subst ho') <;> simp [m_walk, b_walk, gList, itD, shI, enumD_eq, e]

/-! ### how much of each deed -/
def partS : List Step → Nat → Rat
  | [], _ => 0
  | x :: l, i => (if x.1 = i then x.2 else 0) + partS l i
def partR : List Turn → Nat → Rat
  | [], _ => 0
  | t :: r, i => (t.1 : Rat) * partS t.2 i + partR r i
theorem partS_sz {ds : List Deed} {k : Nat} : ∀ {l : List Step} (i : Nat), StepsOk ds k l → Sz (partS l i) (1 + l.length * (k + 1))
  | [], _, _ => zero_sz.mono (by simp)
  | x :: l, i, h => by
    have h2 := partS_sz (l := l) i fun y hy => h y (by simp [hy])
    rw [partS]
    split
    · exact ((h x (by simp)).2.1.add h2).mono (by simp only [List.length_cons, Nat.add_mul]; omega)
    · rw [Rat.zero_add]; exact h2.mono (by simp only [List.length_cons, Nat.add_mul]; omega)
theorem partS_app (a b : List Step) (i : Nat) : partS (a ++ b) i = partS a i + partS b i := by
  induction a with
  | nil => rw [partS, Rat.zero_add]; rfl
  | cons x l ih => rw [List.cons_append, partS, partS, ih]; grind
theorem partR_app (a b : List Turn) (i : Nat) : partR (a ++ b) i = partR a i + partR b i := by
  induction a with
  | nil => rw [partR, Rat.zero_add]; rfl
  | cons x l ih => rw [List.cons_append, partR, partR, ih]; grind
theorem partR_ones (l : List Step) (i : Nat) : partR (ones l) i = partS l i := by
  induction l with
  | nil => rfl
  | cons x l ih =>
    show ((1 : Nat) : Rat) * partS [x] i + partR (ones l) i = _
    have : ((1 : Nat) : Rat) = 1 := rfl
    rw [ih, this, partS, partS, partS]; grind
theorem parts_of_spec {m : Nat} {ds : List Deed} {k L ρ : Nat} {r : List Turn} {o2 o3 : Bool} (h : NetOk m ds) (hr : ∀ t ∈ r, TurnOk ds k L ρ t) (hn : r.length * (L * (ρ + k + 3) + ρ + 3) + ρ + k + 10 ≤ 8000) (ho : o2 = false → o3 = false := by simp) :
    m_parts_of [netD false m ds, .lst o2 (turnsL o3 r)] = .ok (.lst true (frR ds.length (partR r)), .dead) := by
  have inner : ∀ (net rn td : D) (R : Nat) (l : List Step) (g : Nat → Rat) (n : Nat) (st a b : D), R < 2 ^ ρ → StepsOk ds k l → (∀ i, Sz (g i) n) → n + l.length * (ρ + k + 3) + ρ + k + 4 ≤ 8000 →
      ∃ a' b', forL T_parts_of_1 B_parts_of_1 (stepsL l) (V_parts_of net rn (.lst true (frR ds.length g)) (.int R) st a b) = .nx (V_parts_of net rn (.lst true (frR ds.length fun i => g i + (R : Rat) * partS l i)) (.int R) st a' b') := by
    intro net rn td R l
    induction l with
    | nil => intro g n st a b _ _ _ _; exact ⟨a, b, by simp [stepsL, partS, Rat.add_zero]⟩
    | cons x l ih =>
      intro g n st a b hR hl hg hn
      simp only [List.length_cons, Nat.add_mul] at hn
      obtain ⟨x1, x2, x3⟩ := hl x (by simp)
      have rz := nat_sz hR
      have s1 := timed_spec rz x2 (by omega)
      have s2 := added_spec (hg x.1) (rz.mul x2) (by omega)
      obtain ⟨a', b', e⟩ := ih (updF g x.1 (g x.1 + (R : Rat) * x.2)) (n + ρ + k + 3) st (.int x.1) (fr x.2) hR (fun y hy => hl y (by simp [hy])) (fun i => by
        unfold updF
        split
        · exact ((hg x.1).add (rz.mul x2)).mono (by omega)
        · exact (hg i).mono (by omega)) (by omega)
      refine ⟨a', b', ?_⟩
      have ee : (fun i => updF g x.1 (g x.1 + (R : Rat) * x.2) i + (R : Rat) * partS l i) = fun i => g i + (R : Rat) * partS (x :: l) i := by
        funext i
        rw [partS]
        unfold updF
        by_cases hi : i = x.1
        · subst hi; rw [if_pos rfl, if_pos rfl]; grind
        · rw [if_neg hi, if_neg (fun z => hi z.symm)]; grind
      rw [ee] at e
      show forL _ _ (stepD x :: stepsL l) _ = _
      have s3 := fraction_nat R
      rw [forL_step rfl (e2 := V_parts_of net rn (.lst true (frR ds.length (updF g x.1 (g x.1 + (R : Rat) * x.2)))) (.int R) st (.int x.1) (fr x.2)) (by simp [B_parts_of_1, frR_at x1, s1, s2, s3, ixN_k x1, frR_set])]
      exact e
  have outer : ∀ (net rn : D) (r : List Turn) (g : Nat → Rat) (n : Nat) (a b c d : D), (∀ t ∈ r, TurnOk ds k L ρ t) → (∀ i, Sz (g i) n) → n + r.length * (L * (ρ + k + 3) + ρ + 3) + ρ + k + 6 ≤ 8000 →
      ∃ a' b' c' d', forL T_parts_of_2 B_parts_of_2 (turnsL false r) (V_parts_of net rn (.lst true (frR ds.length g)) a b c d) = .nx (V_parts_of net rn (.lst true (frR ds.length fun i => g i + partR r i)) a' b' c' d') := by
    intro net rn r
    induction r with
    | nil => intro g n a b c d _ _ _; exact ⟨a, b, c, d, by simp [turnsL, partR, Rat.add_zero]⟩
    | cons t r ih =>
      intro g n a b c d hr hg hn
      simp only [List.length_cons, Nat.add_mul, Nat.one_mul] at hn
      have t0 := hr t (by simp)
      have hlen : t.2.length * (ρ + k + 3) ≤ L * (ρ + k + 3) := Nat.mul_le_mul_right _ t0.len
      obtain ⟨a1, b1, e1⟩ := inner net rn .dead t.1 t.2 g n (.lst false (stepsL t.2)) c d t0.lt t0.st hg (by omega)
      have hg2 : ∀ i, Sz (g i + (t.1 : Rat) * partS t.2 i) (n + L * (ρ + k + 3) + ρ + 3) := fun i => by
        have h1 := partS_sz i t0.st
        have h2 : t.2.length * (k + 1) ≤ L * (ρ + k + 3) := Nat.mul_le_mul t0.len (by omega)
        exact ((hg i).add ((nat_sz t0.lt).mul h1)).mono (by omega)
      obtain ⟨a', b', c', d', e⟩ := ih (fun i => g i + (t.1 : Rat) * partS t.2 i) (n + L * (ρ + k + 3) + ρ + 3) (.int t.1) (.lst false (stepsL t.2)) a1 b1 (fun x hx => hr x (by simp [hx])) hg2 (by omega)
      refine ⟨a', b', c', d', ?_⟩
      have ee : (fun i => g i + (t.1 : Rat) * partS t.2 i + partR r i) = fun i => g i + partR (t :: r) i := by funext i; rw [partR]; grind
      rw [ee] at e
      show forL _ _ (turnD false t :: turnsL false r) _ = _
      rw [forL_step rfl (e2 := V_parts_of net rn (.lst true (frR ds.length fun i => g i + (t.1 : Rat) * partS t.2 i)) (.int t.1) (.lst false (stepsL t.2)) a1 b1) (by simp [B_parts_of_2, e1])]
      exact e
  obtain ⟨a, b, c, d, e⟩ := outer (netD false m ds) (.lst false (turnsL false r)) r (fun _ => 0) 1 .dead .dead .dead .dead hr (fun _ => zero_sz) (by omega)
  have e0 : (fun i => 0 + partR r i) = partR r := by funext i; rw [Rat.zero_add]
  rw [e0] at e
  have ho' := ho
  cases o2 <;> simp at ho' <;> (try subst ho') <;> simp [m_parts_of, b_parts_of, fr0, mulD_zero h.n, e]
end Fl

/-! Fl: runs timed, what parts change. -/
namespace Fl
open PySem
def sclR (q : Rat) (r : List Turn) : List Turn := r.map fun t => (t.1, sclS q t.2)
theorem times_spec' {ds : List Deed} {k L ρ n : Nat} {r : List Turn} {q : Rat} {o2 o3 : Bool} (hr : ∀ t ∈ r, TurnOk ds k L ρ t) (hq : Sz q n) (hn : n + k ≤ 8000) (hL : L ≤ 1000) (hl : r.length ≤ 1000) (ho : o2 = false → o3 = false := by simp) :
    m_times [.lst o2 (turnsL o3 r), fr q] = .ok (.lst true (turnsL true (sclR q r)), .dead) := by
  have c1 : ∀ (l : List Step) (a b c : D) (env : Env), StepsOk ds k l → env = V_times a (fr q) b c → C_times_1 (stepsL l) env = some (stepsL (sclS q l), env) := fun l a b c env hl he => by
    subst he
    have := lcL_map (f := gT 2 (gsC (gN 4) (gsC (gN 5) (gsN)))) (b := bYes) (m := eTup (aC (eV 4) (aC (eCall m_timed (aC (eV 5) (aC (eV 1) (aN)))) (aN)))) (vs := [4, 5]) (env := V_times a (fr q) b c) l stepD (fun x => stepD (x.1, x.2 * q)) (fun x hx => by
      exact ⟨_, _, _, rfl, rfl, by simp [timed_spec (hl x hx).2.1 hq (by omega)]; exact ⟨rfl, rfl⟩, rfl⟩)
    have e : l.map (fun x => stepD (x.1, x.2 * q)) = stepsL (sclS q l) := by simp [stepsL, sclS]
    rw [e] at this
    exact this
  have c2 : ∀ (env : Env), env = V_times (.lst false (turnsL false r)) (fr q) → C_times_2 (turnsL false r) env = some (turnsL true (sclR q r), env) := fun env he => by
    subst he
    have := lcL_map (f := gT 2 (gsC (gN 2) (gsC (gN 3) (gsN)))) (b := bYes) (m := eTup (aC (eV 2) (aC (eLcF 6 (iL (eV 3)) C_times_1 [4, 5]) (aN)))) (vs := [2, 3]) (env := V_times (.lst false (turnsL false r)) (fr q)) r (turnD false) (fun t => turnD true (t.1, sclS q t.2)) (fun t ht => by
      have := (hr t ht).len
      have hz : t.2.length ≤ 100000 := by omega
      exact ⟨_, _, _, rfl, rfl, by simp [c1 t.2 _ _ _ _ (hr t ht).st rfl, hz]; exact ⟨rfl, rfl⟩, rfl⟩)
    have e : r.map (fun t => turnD true (t.1, sclS q t.2)) = turnsL true (sclR q r) := by simp [turnsL, sclR]
    rw [e] at this
    exact this
  have hz : r.length ≤ 100000 := by omega
  have ho' := ho
  cases o2 <;> simp at ho' <;> (try subst ho') <;> simp [m_times, b_times, c2, hz]
/-- what so much of each deed changes -/
def totF : List Deed → (Nat → Rat) → Nat → Nat → Rat
  | [], _, _, _ => 0
  | d :: ds, g, i, j => g i * chg d j + totF ds g (i + 1) j
def tot (ds : List Deed) (g : Nat → Rat) (j : Nat) : Rat := totF ds g 0 j
theorem totF_add (ds : List Deed) (g h : Nat → Rat) (i j : Nat) : totF ds (fun k => g k + h k) i j = totF ds g i j + totF ds h i j := by
  induction ds generalizing i with
  | nil => rw [totF, totF, totF, Rat.zero_add]
  | cons d ds ih => rw [totF, totF, totF, ih]; grind
theorem totF_scl (ds : List Deed) (q : Rat) (g : Nat → Rat) (i j : Nat) : totF ds (fun k => q * g k) i j = q * totF ds g i j := by
  induction ds generalizing i with
  | nil => rw [totF, totF, Rat.mul_zero]
  | cons d ds ih => rw [totF, totF, ih]; grind
theorem totF_zero (ds : List Deed) (i j : Nat) : totF ds (fun _ => 0) i j = 0 := by
  induction ds generalizing i with
  | nil => rfl
  | cons d ds ih => rw [totF, ih]; grind
theorem totF_unit (ds : List Deed) (k : Nat) (q : Rat) (i j : Nat) : totF ds (fun x => if k = x then q else 0) i j = if i ≤ k ∧ k < i + ds.length then q * chg (dd ds (k - i)) j else 0 := by
  induction ds generalizing i with
  | nil => rw [totF, if_neg (by simp)]
  | cons d ds ih =>
    rw [totF, ih]
    by_cases h : k = i
    · subst h
      rw [if_pos rfl, if_neg (by omega), if_pos (by simp), Nat.sub_self]
      show q * chg d j + 0 = q * chg (dd (d :: ds) 0) j
      rw [Rat.add_zero]; rfl
    · rw [if_neg h]
      by_cases h2 : i + 1 ≤ k ∧ k < i + 1 + ds.length
      · rw [if_pos h2, if_pos (by simp; omega)]
        have : k - i = (k - (i + 1)) + 1 := by omega
        rw [this]
        show 0 * _ + q * chg (dd ds (k - (i + 1))) j = q * chg (dd (d :: ds) (k - (i + 1) + 1)) j
        rw [Rat.zero_mul, Rat.zero_add]; rfl
      · rw [if_neg h2, if_neg (by simp; omega), Rat.zero_mul, Rat.zero_add]
theorem sumC_tot {ds : List Deed} {k : Nat} : ∀ {l : List Step}, StepsOk ds k l → ∀ j, sumC ds l j = tot ds (partS l) j
  | [], _, j => (totF_zero ds 0 j).symm
  | x :: l, h, j => by
    have e : partS (x :: l) = fun i => (if x.1 = i then x.2 else 0) + partS l i := rfl
    rw [sumC, sumC_tot (l := l) (fun y hy => h y (by simp [hy])) j]
    unfold tot
    rw [e, totF_add, totF_unit, if_pos ⟨Nat.zero_le _, by have := (h x (by simp)).1; omega⟩, Nat.sub_zero]
    rfl
theorem runC_tot {ds : List Deed} {k L ρ : Nat} : ∀ {r : List Turn}, (∀ t ∈ r, TurnOk ds k L ρ t) → ∀ j, runC ds r j = tot ds (partR r) j
  | [], _, j => (totF_zero ds 0 j).symm
  | t :: r, h, j => by
    have e : partR (t :: r) = fun i => (t.1 : Rat) * partS t.2 i + partR r i := rfl
    rw [runC, runC_tot (r := r) (fun y hy => h y (by simp [hy])) j]
    unfold tot
    rw [e, totF_add, totF_scl]
    unfold turnC
    rw [sumC_tot (h t (by simp)).st]; rfl
theorem change_by_spec2 {o : Bool} {m k : Nat} {ds : List Deed} {g : Nat → Rat} (h : NetOk m ds) (hg : ∀ i, i < ds.length → 0 ≤ g i ∧ Sz (g i) k) (hn : (k + 83) * ds.length + k + 91 ≤ 8000) :
    m_change_by [netD false m ds, .lst false (frR ds.length g)] = .ok (.lst true (frR m (tot ds g)), .dead) := by
  have zl : ((List.range ds.length).map fun i => (g i, dd ds i)).map (·.2) = ds := by
    rw [List.map_map]
    apply List.ext_getElem?
    intro i
    by_cases hi : i < ds.length
    · simp [hi, dd]
    · simp [hi]
  have zf : ((List.range ds.length).map fun i => (g i, dd ds i)).map (fun x => fr x.1) = frR ds.length g := by rw [List.map_map]; rfl
  have zt : totL ((List.range ds.length).map fun i => (g i, dd ds i)) = tot ds g := by
    funext j
    have key : ∀ (es : List Deed) (i : Nat), (∀ a, a < es.length → dd ds (i + a) = dd es a) → totL ((List.range' i es.length).map fun i => (g i, dd ds i)) j = totF es g i j := by
      intro es
      induction es with
      | nil => intro i _; rfl
      | cons d es ih =>
        intro i hd
        rw [List.length_cons, List.range'_succ, List.map_cons, totL, totF, ih (i + 1) fun a ha => by
          have := hd (a + 1) (by simpa using ha)
          rw [show i + 1 + a = i + (a + 1) by omega, this]; rfl]
        have := hd 0 (by simp)
        rw [Nat.add_zero] at this
        rw [this]; rfl
    have := key ds 0 (fun a _ => by rw [Nat.zero_add])
    rw [← List.range_eq_range'] at this
    exact this
  have s := change_by_spec (o := o) (k := k) (l := (List.range ds.length).map fun i => (g i, dd ds i)) h.mm (by simpa using hn) (by simpa using h.n) (fun x hx => by
    obtain ⟨i, hi, rfl⟩ := List.mem_map.mp hx
    have hi : i < ds.length := by simpa using hi
    exact ⟨(hg i hi).1, (hg i hi).2, h.dd i⟩)
  rw [zl, zf, zt] at s
  exact s

/-! ### comprehensions that draw -/
theorem lcL_draw {f : Tgt} {b : Tst} {m : Exp} {vs : List Nat} (I : Env → Prop) (Q : D → Prop) : ∀ (ds : List D) (env : Env), (∀ d ∈ ds, ∀ env, I env → ∃ e e' r e2, f d env = some e ∧ b e = .ok (true, e') ∧ m e' = .ok (r, e2) ∧ I (wipeD e2 vs) ∧ Q r) → I env →
    ∃ rs env', lcL f b m vs ds env = some (rs, env') ∧ I env' ∧ rs.length = ds.length ∧ ∀ r ∈ rs, Q r
  | [], env, _, h => ⟨[], env, rfl, h, rfl, by simp⟩
  | d :: ds, env, hs, h => by
    obtain ⟨e, e', r, e2, h1, h2, h3, h4, h5⟩ := hs d (by simp) env h
    obtain ⟨rs, env', k1, k2, k3, k4⟩ := lcL_draw I Q ds (wipeD e2 vs) (fun x hx => hs x (List.mem_cons_of_mem _ hx)) h4
    refine ⟨r :: rs, env', ?_, k2, by simp [k3], fun x hx => ?_⟩
    · rw [lcL_cons, h1]; dsimp only; rw [h2]; dsimp only; rw [if_pos rfl, h3]; dsimp only; rw [k1]
    · rcases List.mem_cons.mp hx with rfl | hx
      · exact h5
      · exact k4 x hx
/-- things of a kind, as typed ones -/
theorem all_typed {α : Type} {enc : α → D} {P : α → Prop} : ∀ {rs : List D}, (∀ r ∈ rs, ∃ x, r = enc x ∧ P x) → ∃ xs : List α, rs = xs.map enc ∧ xs.length = rs.length ∧ ∀ x ∈ xs, P x
  | [], _ => ⟨[], rfl, rfl, by simp⟩
  | r :: rs, h => by
    obtain ⟨x, hx, hp⟩ := h r (by simp)
    obtain ⟨xs, h1, h2, h3⟩ := all_typed (rs := rs) fun y hy => h y (by simp [hy])
    exact ⟨x :: xs, by simp [hx, h1], by simp [h2], fun y hy => by
      rcases List.mem_cons.mp hy with rfl | hy
      · exact hp
      · exact h3 y hy⟩
/-- a row of rooms -/
theorem rooms_lc {f : Tgt} {m : Exp} {vs : List Nat} {ns : List Int} {env : Env} {lo n : Nat} (hlo : lo + n ≤ 1000) (h : ∀ k, lo ≤ k → k < lo + n → ∃ e e2, f (.int (k : Nat)) env = some e ∧ (∀ r, m__law_room [.frz (ns.map .int), .int (k : Nat)] = .ok (r, .dead) → m e = .ok (r, e2)) ∧ wipeD e2 vs = env) {z : Int} (hz : z = (lo : Int) := by rfl) :
    ∃ rs, lcL f bYes m vs (rangeD z n) env = some (rs, env) ∧ rs.length = n ∧ ∀ r ∈ rs, RoomOk r := by
  obtain ⟨rs, env', h1, h2, h3, h4⟩ := lcL_draw (f := f) (b := bYes) (m := m) (vs := vs) (fun e => e = env) RoomOk (rangeD z n) env (fun d hd e he => by
    subst he
    obtain ⟨k, hk, rfl⟩ := mem_rangeD hd
    rw [hz, show ((lo : Int) + (k : Int)) = ((lo + k : Nat) : Int) by omega]
    obtain ⟨e1, e2, q1, q2, q3⟩ := h (lo + k) (by omega) (by omega)
    obtain ⟨r, q4, q5⟩ := room_spec (ns := ns) (k := lo + k) (by omega)
    exact ⟨e1, e1, r, e2, q1, rfl, q2 r q4, q3, q5⟩) rfl
  subst h2
  rw [rangeD_len] at h3
  exact ⟨rs, h1, h3, h4⟩
/-- a row of deeds, one by each cell -/
theorem deeds_lc {f : Tgt} {m : Exp} {vs : List Nat} {ns : List Int} {env : Env} {lo n M most : Nat} {mz : Int} (hmz : mz = (most : Int)) (hM : 0 < M) (hM2 : M ≤ 1000) (hmost : most ≤ 1000) (hlo : lo + n ≤ 1000) (h : ∀ k, lo ≤ k → k < lo + n → ∃ e e2, f (.int (k : Nat)) env = some e ∧ (∀ r d r', m__law_room [.frz (ns.map .int), .int (k : Nat)] = .ok (r, .dead) → RoomOk r → m__law_deed [r, .int M, .int mz] = .ok (deedD true d, r') → m e = .ok (deedD true d, e2)) ∧ wipeD e2 vs = env) {z : Int} (hz : z = (lo : Int) := by rfl) :
    ∃ ds, lcL f bYes m vs (rangeD z n) env = some (deedsL true ds, env) ∧ ds.length = n ∧ ∀ d ∈ ds, DeedOk M d ∧ d.1.length ≤ most ∧ d.2.length ≤ most := by
  obtain ⟨rs, env', h1, h2, h3, h4⟩ := lcL_draw (f := f) (b := bYes) (m := m) (vs := vs) (fun e => e = env) (fun r => ∃ d, r = deedD true d ∧ DeedOk M d ∧ d.1.length ≤ most ∧ d.2.length ≤ most) (rangeD z n) env (fun d hd e he => by
    subst he
    obtain ⟨k, hk, rfl⟩ := mem_rangeD hd
    rw [hz, show ((lo : Int) + (k : Int)) = ((lo + k : Nat) : Int) by omega]
    obtain ⟨e1, e2, q1, q2, q3⟩ := h (lo + k) (by omega) (by omega)
    obtain ⟨r, q4, q5⟩ := room_spec (ns := ns) (k := lo + k) (by omega)
    obtain ⟨dd, r', q6, q7, q8, q9⟩ := deed_draw q5 hM hM2 hmost
    rw [← hmz] at q6
    exact ⟨e1, e1, _, e2, q1, rfl, q2 r dd r' q4 q5 q6, q3, dd, rfl, q8, q9⟩) rfl
  subst h2
  obtain ⟨ds, k1, k2, k3⟩ := all_typed (enc := deedD true) h4
  rw [rangeD_len] at h3
  exact ⟨ds, by rw [h1, k1]; rfl, by omega, k3⟩

/-! ### texts of nets, lists looked at -/
theorem frR_eq' {a b : Bool} {m : Nat} {f g : Nat → Rat} (h : ∀ j, j < m → f j = g j) : fEq (.lst a (frR m f)) (.lst b (frR m g)) = some (.bl true) ∧ fNe (.lst a (frR m f)) (.lst b (frR m g)) = some (.bl false) := by
  rw [frR_ext (f := f) (g := g) h]
  exact frR_eq a b m g
theorem lf_fr {q : Rat} {n : Nat} (h : Sz q n) (hn : n ≤ 1800) : lf (fr q) = true := by
  have h1 : q.num.natAbs.log2 < 1900 := Nat.lt_of_lt_of_le (log2_lt (k := 1800) (Nat.lt_of_lt_of_le h.1 (Nat.pow_le_pow_right (by decide) hn)) (by decide)) (by decide)
  have h2 : q.den.log2 < 1900 := Nat.lt_of_lt_of_le (log2_lt (a := (q.den : Int)) (k := 1800) (Nat.lt_of_lt_of_le h.2 (Nat.pow_le_pow_right (by decide) hn)) (by decide)) (by decide)
  simp [fr, lf, lfL, h1, h2]
theorem bulk_fr (q : Rat) : bulkD (fr q) = 2 := rfl
theorem lf_nat {k : Nat} (h : k < 2 ^ 1000) : lf (.int (k : Int)) = true := by
  have h1 : k.log2 < 1900 := Nat.lt_of_lt_of_le (log2_lt (a := (k : Int)) (k := 1000) h (by decide)) (by decide)
  simp [lf, h1]
theorem lf_row {p : Nat × Rat} {n : Nat} (h1 : p.1 < 2 ^ 1000) (h : Sz p.2 n) (hn : n ≤ 1800) : lf (row p) = true := by
  have e1 := lf_nat h1
  have e2 := lf_fr h hn
  show lfL [.int (p.1 : Int), fr p.2] = true
  simp [lfL, e1, e2]
theorem lf_side {m : Nat} {s : Side} (h : SideOk m s) (hm : m ≤ 1000) (o : Bool) : lf (.lst o (sideL s)) = true := by
  show lfL (sideL s) = true
  refine lfL_all fun d hd => ?_
  obtain ⟨p, hp, rfl⟩ := List.mem_map.mp hd
  exact lf_row (by have := h.lt p hp; exact Nat.lt_of_lt_of_le (show p.1 < 2 ^ 10 by omega) (Nat.pow_le_pow_right (by decide) (by decide))) (h.sz p hp) (by decide)
theorem bulk_side (s : Side) (o : Bool) : bulkD (.lst o (sideL s)) ≤ 5 * s.length := by
  show bulkL (sideL s) ≤ _
  have := bulkL_all (ds := sideL s) (n := 4) fun d hd => by
    obtain ⟨p, hp, rfl⟩ := List.mem_map.mp hd
    exact Nat.le_refl _
  simpa using this
theorem net_repr {m B : Nat} {ds : List Deed} (h : NetOk m ds) (hl : ∀ d ∈ ds, d.1.length ≤ B ∧ d.2.length ≤ B) (hb : (10 * B + 3) * ds.length ≤ 19000) : ∃ t, ∀ o, fRepr (netD o m ds) = some (.str t) := by
  have key : ∀ o, ∃ t, fRepr (netD o m ds) = some (.str t) := fun o => by
    refine repr_ok (pl_net o m ds) (by decide) ?_ ?_ rfl
    · show lfL [.int (m : Int), .lst o (deedsL o ds)] = true
      have e1 : lf (.int (m : Int)) = true := lf_nat (by have := h.mm; exact Nat.lt_of_lt_of_le (show m < 2 ^ 10 by omega) (Nat.pow_le_pow_right (by decide) (by decide)))
      have e2 : lf (.lst o (deedsL o ds)) = true := by
        show lfL (deedsL o ds) = true
        refine lfL_all fun d hd => ?_
        obtain ⟨x, hx, rfl⟩ := List.mem_map.mp hd
        show lfL [.lst o (sideL x.1), .lst o (sideL x.2)] = true
        simp [lfL, lf_side (h.d x hx).l h.mm, lf_side (h.d x hx).r h.mm]
      simp [lfL, e1, e2]
    · show bulkL [.int (m : Int), .lst o (deedsL o ds)] ≤ _
      have := bulkL_all (ds := deedsL o ds) (n := 10 * B + 2) fun d hd => by
        obtain ⟨x, hx, rfl⟩ := List.mem_map.mp hd
        show bulkL [.lst o (sideL x.1), .lst o (sideL x.2)] ≤ _
        have h1 := bulk_side x.1 o
        have h2 := bulk_side x.2 o
        obtain ⟨h3, h4⟩ := hl x hx
        simp only [bulkL]
        omega
      rw [deedsL_len, show 10 * B + 2 + 1 = 10 * B + 3 from rfl] at this
      simp only [bulkL, bulkD] at this ⊢
      omega
  obtain ⟨t, ht⟩ := key false
  refine ⟨t, fun o => ?_⟩
  rw [← ht]
  have e1 : toPy (netD o m ds) = toPy (netD false m ds) := by rw [← toPy_sh, sh_netD]
  have e2 : ∀ o, fRepr (netD o m ds) = (toPy (netD o m ds)).bind fun p => if rpOk p then some (.str p.shown) else none := fun o => rfl
  rw [e2, e2, e1]
theorem fEq_nil' {a b : Bool} {ds : List D} {n : Nat} (h : plL ds n = true) (hn : n < 60) : fEq (.lst a ds) (.lst b []) = some (.bl ds.isEmpty) ∧ fNe (.lst a ds) (.lst b []) = some (.bl (!ds.isEmpty)) := by
  obtain ⟨p, h1, h2, h3⟩ := pl_py (.lst a ds) (n + 1) (by simpa [pl] using h)
  have q := eqD_of h1 (show toPy (.lst b []) = some (.list []) from rfl) h2 rfl (by omega) (by decide)
  have e : PyData.eqv p (.list []) = ds.isEmpty := by
    cases ds with
    | nil => cases h1; rfl
    | cons d l =>
      simp only [toPy, toPyL] at h1
      cases hd : toPy d with
      | none => rw [hd] at h1; cases h1
      | some x =>
        cases hl : toPyL l with
        | none => rw [hd, hl] at h1; cases h1
        | some xs => rw [hd, hl] at h1; cases h1; rfl
  rw [e] at q
  exact ⟨by simp [fEq, q], by simp [fNe, q]⟩
theorem plL_steps (l : List Step) : plL (stepsL l) 2 = true := plL_map _ fun p _ => pl_row p 0
/-! ### runs of single steps, runs timed, turns of many rounds -/
theorem ones_ok {ds : List Deed} {k : Nat} {l : List Step} (h : StepsOk ds k l) : ∀ t ∈ ones l, TurnOk ds k 1 1 t := fun t ht => by
  obtain ⟨x, hx, rfl⟩ := List.mem_map.mp ht
  exact ⟨fun y hy => by simp at hy; subst hy; exact h y hx, by simp, by simp, by simp⟩
theorem sclS_ok {ds : List Deed} {k n : Nat} {l : List Step} {q : Rat} (h : StepsOk ds k l) (hq : Sz q n) (h0 : 0 < q) : StepsOk ds (k + n) (sclS q l) := fun x hx => by
  obtain ⟨y, hy, rfl⟩ := List.mem_map.mp hx
  obtain ⟨h1, h2, h3⟩ := h y hy
  exact ⟨h1, h2.mul hq, Rat.mul_pos h3 h0⟩
theorem sclR_ones (q : Rat) (l : List Step) : sclR q (ones l) = ones (sclS q l) := by simp [sclR, ones, sclS]
theorem ones_len (l : List Step) : (ones l).length = l.length := by simp [ones]
theorem partS_scl (q : Rat) (l : List Step) (i : Nat) : partS (sclS q l) i = q * partS l i := by
  induction l with
  | nil => simp [sclS, partS]
  | cons x l ih =>
    have : sclS q (x :: l) = (x.1, x.2 * q) :: sclS q l := rfl
    rw [this, partS, ih, partS]
    split <;> grind
/-- a turn of many rounds, from so many times the begin -/
theorem canT_many {ds : List Deed} {m k R : Nat} {l : List Step} {f : Nat → Rat} (h : NetOk m ds) (hl : StepsOk ds k l) (hc : canS ds l f) (h0 : ∀ j, 0 ≤ f j) (h1 : ∀ j, 0 ≤ f j + sumC ds l j) : canT ds R l (fun j => f j * (R : Rat)) := by
  intro i hi
  refine canS_mono (fun j => ?_) hc
  have hr : ((R : Nat) : Rat) = ((R - 1 - i : Nat) : Rat) + (i : Rat) + 1 := by
    have : R = (R - 1 - i) + i + 1 := by omega
    exact_mod_cast congrArg (fun n : Nat => (n : Rat)) this
  have p1 := Rat.mul_nonneg (h0 j) (show (0 : Rat) ≤ ((R - 1 - i : Nat) : Rat) from Rat.natCast_nonneg)
  have p2 := Rat.mul_nonneg (h1 j) (show (0 : Rat) ≤ (i : Rat) from Rat.natCast_nonneg)
  rw [hr]
  grind
theorem chg_out {m : Nat} {d : Deed} (h : DeedOk m d) {j : Nat} (hj : m ≤ j) : chg d j = 0 := by
  have h1 : amt d.1 j = 0 := amt_none fun p hp => by have := h.l.lt p hp; omega
  have h2 : amt d.2 j = 0 := amt_none fun p hp => by have := h.r.lt p hp; omega
  unfold chg
  rw [h1, h2]; exact Rat.sub_self
theorem sumC_out {m : Nat} {ds : List Deed} (h : NetOk m ds) {j : Nat} (hj : m ≤ j) : ∀ l : List Step, sumC ds l j = 0
  | [] => rfl
  | x :: l => by
    rw [sumC, sumC_out h hj l]
    unfold stC
    rw [chg_out (h.dd x.1) hj, Rat.mul_zero, Rat.add_zero]
theorem canS_nn' {ds : List Deed} {m k : Nat} (h : NetOk m ds) {l : List Step} {f : Nat → Rat} (hl : StepsOk ds k l) (hc : canS ds l f) (h0 : ∀ j, 0 ≤ f j) (j : Nat) : 0 ≤ f j + sumC ds l j := by
  by_cases hj : j < m
  · exact canS_nn h hl hc (fun j _ => h0 j) j hj
  · rw [sumC_out h (by omega), Rat.add_zero]; exact h0 j
theorem gMinN {a b : Nat} : gMin [.int (a : Int), .int (b : Int)] = some (.int ((min a b : Nat) : Int)) := by rw [gMin_int]; congr 2; omega
theorem partS_nn {ds : List Deed} {k : Nat} : ∀ {l : List Step} (i : Nat), StepsOk ds k l → 0 ≤ partS l i
  | [], _, _ => Rat.le_refl
  | x :: l, i, h => by
    have h2 := partS_nn (l := l) i fun y hy => h y (by simp [hy])
    have h3 := (h x (by simp)).2.2
    rw [partS]
    split <;> grind
theorem room_at {ns : List Int} {k : Nat} (hk : k < 1000) {z : Int} (hz : z = (k : Int) := by rfl) : ∃ r, m__law_room [.frz (ns.map .int), .int z] = .ok (r, .dead) ∧ RoomOk r := by rw [hz]; exact room_spec hk
@[simp] theorem shI_netD (o : Bool) (m : Nat) (ds : List Deed) : shI (netD o m ds) = netD false m ds := by simp [netD, shI]
@[simp] theorem addD_lst (a b : Bool) (xs ys : List D) : addD (.lst a xs) (.lst b ys) = if xs.length + ys.length ≤ 100000 then some (.lst true (xs ++ ys)) else none := rfl
end Fl

/-! Fl: the functions of defs that stand in many laws (3). -/
namespace Fl
open PySem

noncomputable def C_wet_in_1 : List D → Fl.Env → Option (List D × Fl.Env) := lcL (gT 2 (gsC (gN 1) (gsC (gN 2) (gsN)))) (bOf (eBin fGt (eIxV 2 (eC (.int 0))) (eC (.int 0)))) (eV 1) [1, 2]
noncomputable def b_wet_in : Stm :=
  sRet (eLcF 3 (iE (aC (eV 0) (aN))) C_wet_in_1 [1, 2])
noncomputable def m_wet_in : Fn := fnM 1 3 false b_wet_in
abbrev V_wet_in (stand place much : D := .dead) : Fl.Env := [stand, place, much]

noncomputable def C_takes_from_1 : List D → Fl.Env → Option (List D × Fl.Env) := lcL (gT 2 (gsC (gN 2) (gsC (gN 3) (gsN)))) (bYes) (eV 2) [2, 3]
noncomputable def b_takes_from : Stm :=
  sRet (eLcF 4 (iL (eIx (eIx (eIxV 0 (eC (.int 1))) (eV 1)) (eC (.int 0)))) C_takes_from_1 [2, 3])
noncomputable def m_takes_from : Fn := fnM 2 4 false b_takes_from
abbrev V_takes_from (net deed place amount : D := .dead) : Fl.Env := [net, deed, place, amount]

noncomputable def C_gives_to_1 : List D → Fl.Env → Option (List D × Fl.Env) := lcL (gT 2 (gsC (gN 2) (gsC (gN 3) (gsN)))) (bYes) (eV 2) [2, 3]
noncomputable def b_gives_to : Stm :=
  sRet (eLcF 4 (iL (eIx (eIx (eIxV 0 (eC (.int 1))) (eV 1)) (eC (.int 1)))) C_gives_to_1 [2, 3])
noncomputable def m_gives_to : Fn := fnM 2 4 false b_gives_to
abbrev V_gives_to (net deed place amount : D := .dead) : Fl.Env := [net, deed, place, amount]

noncomputable def b__law_pool : Stm :=
  sSeq (sAsg (eC (.int 0)) (gN 2))
  (sSeq (sIf (bOf (eBin fLt (eV 1) (eBV gLen 0))) (sAsg (eIxV 0 (eV 1)) (gN 2)) (sPass))
  (sSeq (sAsg (eBin fMod (eBin mulD (eBin addD (eBin addD (eBin addD (eBin fMod (eV 2) (eC (.int 2147483629))) (eBin mulD (eBin mulD (eC (.int 7919)) (eV 1)) (eV 1))) (eBin mulD (eC (.int 48271)) (eV 1))) (eC (.int 11))) (eC (.int 39373))) (eC (.int 2147483647))) (gN 3))
  (sSeq (sIf (bOf (eBin fLt (eV 2) (eBin fPow (eC (.int 10)) (eC (.int 18))))) (sAsg (eC (.int 0)) (gN 2)) (sPass))
  (sRet (eLst (aC (eM 2) (aC (eBin addD (eBin fMod (eBin mulD (eV 3) (eV 3)) (eC (.int 2147483629))) (eC (.int 1))) (aN))))))))
noncomputable def m__law_pool : Fn := fnM 2 4 false b__law_pool
abbrev V__law_pool (_law_script _law_k _law_cell _law_seed : D := .dead) : Fl.Env := [_law_script, _law_k, _law_cell, _law_seed]

noncomputable def b_take2 : Stm :=
  sSeq (sIf (bOf (eBin fGt (eIxV 0 (eC (.int 0))) (eC (.int 0)))) (sSeq (sAsg (eBin fMod (eIxV 0 (eC (.int 0))) (eV 1)) (gN 2))
  (sSeq (sSetIx 0 (eBin fDiv (eIxV 0 (eC (.int 0))) (eV 1)) (eC (.int 0)))
  (sRet (eM 2)))) (sPass))
  (sSeq (sSetIx 0 (eBin fMod (eBin addD (eBin mulD (eIxV 0 (eC (.int 1))) (eC (.int 48271))) (eC (.int 12345))) (eC (.int 2147483647))) (eC (.int 1)))
  (sRet (eBin fMod (eBin fDiv (eBin fMod (eBin mulD (eIxV 0 (eC (.int 1))) (eIxV 0 (eC (.int 1)))) (eC (.int 2147483629))) (eC (.int 64))) (eV 1))))
noncomputable def m_take2 : Fn := fnM 2 3 true b_take2
abbrev V_take2 (_law_pool_here _law_many _law_found : D := .dead) : Fl.Env := [_law_pool_here, _law_many, _law_found]

noncomputable def W__law_low_1 : Tst := bOf (eBin fGt (eV 3) (eC (.int 0)))
noncomputable def B__law_low_1 : Stm := sPar 2 3 (aC (eV 3) (aC (eBin fMod (eV 2) (eV 3)) (aN)))
noncomputable def b__law_low : Stm :=
  sSeq (sAsg (eB gAbs (aC (eV 0) aN)) (gN 2))
  (sSeq (sAsg (eV 1) (gN 3))
  (sSeq (sWhile (W__law_low_1) (B__law_low_1))
  (sRet (eTup (aC (eBin fDiv (eV 0) (eV 2)) (aC (eBin fDiv (eV 1) (eV 2)) (aN)))))))
noncomputable def m__law_low : Fn := fnM 2 4 false b__law_low
abbrev V__law_low (_law_top _law_bottom _law_one _law_other : D := .dead) : Fl.Env := [_law_top, _law_bottom, _law_one, _law_other]

noncomputable def C__law_can_be_1 : List D → Fl.Env → Option (List D × Fl.Env) := lcL (gN 9) (bOf (eBin fGt (eIx (eIxV 1 (eV 9)) (eC (.int 0))) (eC (.int 0)))) (eV 9) [9]
noncomputable def C__law_can_be_2 : List D → Fl.Env → Option (List D × Fl.Env) := lcL (gN 10) (bOf (eBinV fNotIn (eIxV 10 (eC (.int 0))) 3)) (eV 10) [10]
noncomputable def C__law_can_be_3 : List D → Fl.Env → Option (List D × Fl.Env) := lcL (gN 10) (bOf (eBinV fNotIn (eIxV 10 (eC (.int 0))) 3)) (eIxV 10 (eC (.int 0))) [10]
noncomputable def T__law_can_be_4 : Tgt := gN 6
noncomputable def B__law_can_be_4 : Stm := sSeq (sAsg (eIx (eIxV 0 (eC (.int 1))) (eV 6)) (gT 2 (gsC (gN 7) (gsC (gN 8) (gsN)))))
  (sIf (bAnd (bOf (eBinV fNotIn (eV 6) 4)) (bOf (eBin fEq (eLcF 11 (iL (eV 7)) C__law_can_be_2 [10]) (eLst (aN))))) (sSeq (sApp 4 (eV 6))
  (sExpr (eMut 3 fExtend (aC (eLcF 11 (iL (eV 8)) C__law_can_be_3 [10]) (aN))))) (sPass))
noncomputable def T__law_can_be_5 : Tgt := gN 5
noncomputable def B__law_can_be_5 : Stm := sFor (iL (eV 2)) (T__law_can_be_4)
  (B__law_can_be_4)
noncomputable def b__law_can_be : Stm :=
  sSeq (sAsg (eLcF 11 (iR1 (aC (eIxV 0 (eC (.int 0))) (aN))) C__law_can_be_1 [9]) (gN 3))
  (sSeq (sAsg (eLst (aN)) (gN 4))
  (sSeq (sFor (iR1 (aC (eBV gLen 2) (aN))) (T__law_can_be_5)
  (B__law_can_be_5))
  (sRet (eTup (aC (eG1V gSort 3) (aC (eG1V gSort 4) (aN)))))))
noncomputable def m__law_can_be : Fn := fnM 3 11 false b__law_can_be
abbrev V__law_can_be (_law_net_here _law_stand_here _law_deeds _law_wet _law_able _law_turn _law_deed_here _law_takes _law_gives _law_place _law_row : D := .dead) : Fl.Env := [_law_net_here, _law_stand_here, _law_deeds, _law_wet, _law_able, _law_turn, _law_deed_here, _law_takes, _law_gives, _law_place, _law_row]

noncomputable def C_copy2_1 : List D → Fl.Env → Option (List D × Fl.Env) := lcL (gT 2 (gsC (gN 1) (gsC (gN 2) (gsN)))) (bYes) (eTup (aC (eG1V gList 1) (aC (eG1V gList 2) (aN)))) [1, 2]
noncomputable def b_copy2 : Stm :=
  sRet (eTup (aC (eIxV 0 (eC (.int 0))) (aC (eLcF 3 (iL (eIxV 0 (eC (.int 1)))) C_copy2_1 [1, 2]) (aN))))
noncomputable def m_copy2 : Fn := fnM 1 3 false b_copy2
abbrev V_copy2 (_law_net_here _law_takes _law_gives : D := .dead) : Fl.Env := [_law_net_here, _law_takes, _law_gives]

noncomputable def C_in_turn_1 : List D → Fl.Env → Option (List D × Fl.Env) := lcL (gN 7) (bYes) (eBinV fIn (eV 7) 3) [7]
noncomputable def C_in_turn_2 : List D → Fl.Env → Option (List D × Fl.Env) := lcL (gN 7) (bOf (eBinV fNotIn (eV 7) 3)) (eV 7) [7]
noncomputable def T_in_turn_3 : Tgt := gN 6
noncomputable def B_in_turn_3 : Stm := sIf (bAnd (bOf (eBinV fNotIn (eV 6) 4)) (bOf (eG1 gAll (eLcF 8 (iL (eCallB m_takes_from [.v 0, .v 6] (aC (eV 0) (aC (eV 6) (aN))))) C_in_turn_1 [7])))) (sSeq (sApp 4 (eV 6))
  (sSeq (sAsg (eBin addD (eV 3) (eLcF 8 (iL (eCallB m_gives_to [.v 0, .v 6] (aC (eV 0) (aC (eV 6) (aN))))) C_in_turn_2 [7])) (gN 3))
  (sAsg (eC (.bl true)) (gN 5)))) (sPass)
noncomputable def W_in_turn_4 : Tst := bOf (eV 5)
noncomputable def B_in_turn_4 : Stm := sSeq (sAsg (eC (.bl false)) (gN 5))
  (sFor (iL (eV 2)) (T_in_turn_3)
  (B_in_turn_3))
noncomputable def b_in_turn : Stm :=
  sSeq (sAsg (eCallB m_wet_in [.v 1] (aC (eV 1) (aN))) (gN 3))
  (sSeq (sAsg (eLst (aN)) (gN 4))
  (sSeq (sAsg (eC (.bl true)) (gN 5))
  (sSeq (sWhile (W_in_turn_4) (B_in_turn_4))
  (sRet (eTup (aC (eM 4) (aC (eM 3) (aN))))))))
noncomputable def m_in_turn : Fn := fnM 3 8 false b_in_turn
abbrev V_in_turn (net stand deeds wet found again deed place : D := .dead) : Fl.Env := [net, stand, deeds, wet, found, again, deed, place]

noncomputable def b_amount2 : Stm :=
  sSeq (sAsg (eCallX m_take2 0 (aC (eC (.int 6)) (aN))) (gN 1))
  (sSeq (sIf (bOf (eBin fLt (eV 1) (eC (.int 3)))) (sRet (eTup (aC (eBin addD (eC (.int 1)) (eCallX m_take2 0 (aC (eC (.int 9)) (aN)))) (aC (eC (.int 1)) (aN))))) (sPass))
  (sSeq (sIf (bOf (eBin fLt (eV 1) (eC (.int 5)))) (sRet (eCall m__law_low (aC (eBin addD (eC (.int 1)) (eCallX m_take2 0 (aC (eC (.int 9)) (aN)))) (aC (eBin fSub (eV 1) (eC (.int 1))) (aN))))) (sPass))
  (sSeq (sAsg (eBin addD (eBin addD (eC (.int 1)) (eBin mulD (eCallX m_take2 0 (aC (eBin fPow (eC (.int 10)) (eC (.int 6))) (aN))) (eBin fPow (eC (.int 10)) (eC (.int 6))))) (eCallX m_take2 0 (aC (eBin fPow (eC (.int 10)) (eC (.int 6))) (aN)))) (gN 2))
  (sRet (eCall m__law_low (aC (eV 2) (aC (eBin addD (eC (.int 1)) (eCallX m_take2 0 (aC (eC (.int 9)) (aN)))) (aN))))))))
noncomputable def m_amount2 : Fn := fnM 1 3 true b_amount2
abbrev V_amount2 (_law_pool_here _law_way _law_great : D := .dead) : Fl.Env := [_law_pool_here, _law_way, _law_great]

noncomputable def C__law_some_1 : List D → Fl.Env → Option (List D × Fl.Env) := lcL (gN 3) (bOf (eBin fLt (eCallX m_take2 0 (aC (eC (.int 3)) (aN))) (eV 2))) (eV 3) [3]
noncomputable def b__law_some : Stm :=
  sSeq (sAsg (eCallX m_take2 0 (aC (eC (.int 3)) (aN))) (gN 2))
  (sSeq (sIf (bOf (eBinL fEq 2 (eC (.int 0)))) (sRet (eB gLR1 (aC (eV 1) (aN)))) (sPass))
  (sRet (eLcF 4 (iR1 (aC (eV 1) (aN))) C__law_some_1 [3])))
noncomputable def m__law_some : Fn := fnM 2 4 true b__law_some
abbrev V__law_some (_law_pool_here _law_count _law_way _law_k : D := .dead) : Fl.Env := [_law_pool_here, _law_count, _law_way, _law_k]

noncomputable def b_can_be : Stm :=
  sSeq (sAsg (eCallB m_in_turn [.v 0, .v 1, .v 2] (aC (eV 0) (aC (eV 1) (aC (eV 2) (aN))))) (gT 2 (gsC (gN 3) (gsC (gN 4) (gsN)))))
  (sRet (eTup (aC (eG1V gSort 4) (aC (eG1V gSort 3) (aN)))))
noncomputable def m_can_be : Fn := fnM 3 5 false b_can_be
abbrev V_can_be (net stand deeds found wet : D := .dead) : Fl.Env := [net, stand, deeds, found, wet]

noncomputable def C_side2_1 : List D → Fl.Env → Option (List D × Fl.Env) := lcL (gN 3) (bOf (eBin fLt (eCallX m_take2 0 (aC (eV 1) (aN))) (eV 2))) (eTup (aC (eV 3) (aC (eCallX m_amount2 0 (aN)) (aN)))) [3]
noncomputable def b_side2 : Stm :=
  sSeq (sAsg (eCallX m_take2 0 (aC (eC (.int 4)) (aN))) (gN 2))
  (sRet (eLcF 4 (iR1 (aC (eV 1) (aN))) C_side2_1 [3]))
noncomputable def m_side2 : Fn := fnM 2 4 true b_side2
abbrev V_side2 (_law_pool_here _law_many _law_size _law_place : D := .dead) : Fl.Env := [_law_pool_here, _law_many, _law_size, _law_place]

noncomputable def T_stand2_1 : Tgt := gN 4
noncomputable def B_stand2_1 : Stm := sSeq (sAsg (eCallX m_amount2 0 (aN)) (gN 5))
  (sApp 3 (eIx (eLst (aC (eTup (aC (eC (.int 0)) (aC (eC (.int 1)) (aN)))) (aC (eV 5) (aN)))) (eB gInt (aC (eBin fLt (eCallX m_take2 0 (aC (eC (.int 4)) (aN))) (eV 2)) aN))))
noncomputable def b_stand2 : Stm :=
  sSeq (sAsg (eCallX m_take2 0 (aC (eC (.int 4)) (aN))) (gN 2))
  (sSeq (sAsg (eLst (aN)) (gN 3))
  (sSeq (sFor (iR1 (aC (eV 1) (aN))) (T_stand2_1)
  (B_stand2_1))
  (sRet (eM 3))))
noncomputable def m_stand2 : Fn := fnM 2 6 true b_stand2
abbrev V_stand2 (_law_pool_here _law_many _law_wet _law_found _law_place _law_much : D := .dead) : Fl.Env := [_law_pool_here, _law_many, _law_wet, _law_found, _law_place, _law_much]

noncomputable def b_deed2 : Stm :=
  sSeq (sAsg (eCallX m_take2 0 (aC (eC (.int 4)) (aN))) (gN 2))
  (sSeq (sAsg (eCallX m_take2 0 (aC (eV 1) (aN))) (gN 3))
  (sSeq (sIf (bOf (eBinL fEq 2 (eC (.int 0)))) (sRet (eTup (aC (eCallX m_side2 0 (aC (eV 1) (aN))) (aC (eCallX m_side2 0 (aC (eV 1) (aN))) (aN))))) (sPass))
  (sSeq (sAsg (eLst (aC (eTup (aC (eV 3) (aC (eCallX m_amount2 0 (aN)) (aN)))) (aN))) (gN 4))
  (sSeq (sAsg (eLst (aC (eTup (aC (eBin fMod (eBin addD (eBin addD (eV 3) (eC (.int 1))) (eCallX m_take2 0 (aC (eV 1) (aN)))) (eV 1)) (aC (eCallX m_amount2 0 (aN)) (aN)))) (aN))) (gN 5))
  (sSeq (sIf (bOf (eBinL fEq 2 (eC (.int 2)))) (sAsg (eG1 gItems (eBin addD (eV 5) (eLst (aC (eTup (aC (eV 3) (aC (eCallX m_amount2 0 (aN)) (aN)))) (aN))))) (gN 5)) (sPass))
  (sSeq (sIf (bOf (eBinL fEq 2 (eC (.int 3)))) (sAsg (eG1 gItems (eBin addD (eV 4) (eLst (aC (eTup (aC (eCallX m_take2 0 (aC (eV 1) (aN))) (aC (eCallX m_amount2 0 (aN)) (aN)))) (aN))))) (gN 4)) (sPass))
  (sRet (eTup (aC (eM 4) (aC (eM 5) (aN)))))))))))
noncomputable def m_deed2 : Fn := fnM 2 6 true b_deed2
abbrev V_deed2 (_law_pool_here _law_many _law_way _law_at _law_takes _law_gives : D := .dead) : Fl.Env := [_law_pool_here, _law_many, _law_way, _law_at, _law_takes, _law_gives]

noncomputable def C_net2_1 : List D → Fl.Env → Option (List D × Fl.Env) := lcL (gN 5) (bYes) (eCallB m_deed2 [.e (eCallB m__law_pool [.v 0, .e (eBin addD (eBin addD (eV 1) (eC (.int 1))) (eV 5))] (aC (eV 0) (aC (eBin addD (eBin addD (eV 1) (eC (.int 1))) (eV 5)) (aN)))), .v 4] (aC (eCallB m__law_pool [.v 0, .e (eBin addD (eBin addD (eV 1) (eC (.int 1))) (eV 5))] (aC (eV 0) (aC (eBin addD (eBin addD (eV 1) (eC (.int 1))) (eV 5)) (aN)))) (aC (eV 4) (aN)))) [5]
noncomputable def b_net2 : Stm :=
  sSeq (sAsg (eCallB m__law_pool [.v 0, .v 1] (aC (eV 0) (aC (eV 1) (aN)))) (gN 3))
  (sSeq (sAsg (eBin addD (eC (.int 1)) (eCallX m_take2 3 (aC (eV 2) (aN)))) (gN 4))
  (sRet (eTup (aC (eV 4) (aC (eLcF 6 (iR1 (aC (eCallX m_take2 3 (aC (eC (.int 11)) (aN))) (aN))) C_net2_1 [5]) (aN))))))
noncomputable def m_net2 : Fn := fnM 3 6 false b_net2
abbrev V_net2 (_law_script _law_at _law_most _law_pool_here _law_many _law_k : D := .dead) : Fl.Env := [_law_script, _law_at, _law_most, _law_pool_here, _law_many, _law_k]

noncomputable def C_have_some_1 : List D → Fl.Env → Option (List D × Fl.Env) := lcL (gN 2) (bOf (eBinV fIn (eV 2) 1)) (eV 2) [2]
noncomputable def b_have_some : Stm :=
  sRet (eBin fGt (eB gLen (aC (eLcF 3 (iL (eV 0)) C_have_some_1 [2]) aN)) (eC (.int 0)))
noncomputable def m_have_some : Fn := fnM 2 3 false b_have_some
abbrev V_have_some (places others place : D := .dead) : Fl.Env := [places, others, place]

noncomputable def C_is_dry_1 : List D → Fl.Env → Option (List D × Fl.Env) := lcL (gN 5) (bOf (eBin fGt (eIx (eIxV 1 (eV 5)) (eC (.int 0))) (eC (.int 0)))) (eV 5) [5]
noncomputable def T_is_dry_2 : Tgt := gN 4
noncomputable def B_is_dry_2 : Stm := sIf (bAnd (bOf (eCallB m_have_some [.e (eCallB m_gives_to [.v 0, .v 4] (aC (eV 0) (aC (eV 4) (aN)))), .v 3] (aC (eCallB m_gives_to [.v 0, .v 4] (aC (eV 0) (aC (eV 4) (aN)))) (aC (eV 3) (aN))))) (bNot (bOf (eCallB m_have_some [.e (eCallB m_takes_from [.v 0, .v 4] (aC (eV 0) (aC (eV 4) (aN)))), .v 3] (aC (eCallB m_takes_from [.v 0, .v 4] (aC (eV 0) (aC (eV 4) (aN)))) (aC (eV 3) (aN))))))) (sRet (eC (.bl false))) (sPass)
noncomputable def b_is_dry : Stm :=
  sSeq (sIf (bOf (eBin fGt (eB gLen (aC (eLcF 6 (iL (eV 3)) C_is_dry_1 [5]) aN)) (eC (.int 0)))) (sRet (eC (.bl false))) (sPass))
  (sSeq (sFor (iL (eV 2)) (T_is_dry_2)
  (B_is_dry_2))
  (sRet (eC (.bl true))))
noncomputable def m_is_dry : Fn := fnM 4 6 false b_is_dry
abbrev V_is_dry (net stand deeds places deed place : D := .dead) : Fl.Env := [net, stand, deeds, places, deed, place]

end Fl

/-! Fl: what the helpers of the laws with pools draw. -/
namespace Fl
open PySem
theorem pool_spec {ns : List Int} {k : Nat} (hk : k < 1000) : ∃ r, m__law_pool [.frz (ns.map .int), .int k] = .ok (r, .dead) ∧ RoomOk r := by
  have key : ∀ cell : Int, ∃ s : Int, 0 ≤ s ∧ s < 2147483647 ∧ ∃ a b c d g h u v : Int,
      fMod (.int cell) (.int 2147483629) = some (.int a) ∧ mulD (.int 7919) (.int k) = some (.int b) ∧ mulD (.int b) (.int k) = some (.int c) ∧ mulD (.int 48271) (.int k) = some (.int d) ∧
      mulD (.int (a + c + d + 11)) (.int 39373) = some (.int g) ∧ fMod (.int g) (.int 2147483647) = some (.int h) ∧ mulD (.int h) (.int h) = some (.int u) ∧ fMod (.int u) (.int 2147483629) = some (.int v) ∧ v + 1 = s := fun cell => by
    have h1 := Int.emod_nonneg cell (show (2147483629 : Int) ≠ 0 by decide)
    have h2 := Int.emod_lt_of_pos cell (show (0 : Int) < 2147483629 by decide)
    have h3 : (k : Int) * k ≤ 1000 * 1000 := Int.mul_le_mul (by omega) (by omega) (by omega) (by omega)
    have h4 : 0 ≤ (k : Int) * k := Int.mul_nonneg (by omega) (by omega)
    have h5 := Int.emod_nonneg ((cell % 2147483629 + 7919 * k * k + 48271 * k + 11) * 39373) (show (2147483647 : Int) ≠ 0 by decide)
    have h6 := Int.emod_lt_of_pos ((cell % 2147483629 + 7919 * k * k + 48271 * k + 11) * 39373) (show (0 : Int) < 2147483647 by decide)
    refine ⟨_, ?_, ?_, _, _, _, _, _, _, _, _,
      fMod_of (by decide), mulD_small (by decide) (by omega), mulD_small (by omega) (by omega), mulD_small (by decide) (by omega), mulD_small (by rw [Int.mul_assoc]; omega) (by decide), fMod_of (by decide), mulD_small (by omega) (by omega), fMod_of (by decide), rfl⟩
    · have := Int.emod_nonneg ((cell % 2147483629 + 7919 * k * k + 48271 * k + 11) * 39373 % 2147483647 * ((cell % 2147483629 + 7919 * k * k + 48271 * k + 11) * 39373 % 2147483647)) (show (2147483629 : Int) ≠ 0 by decide)
      omega
    · have := Int.emod_lt_of_pos ((cell % 2147483629 + 7919 * k * k + 48271 * k + 11) * 39373 % 2147483647 * ((cell % 2147483629 + 7919 * k * k + 48271 * k + 11) * 39373 % 2147483647)) (show (0 : Int) < 2147483629 by decide)
      omega
  have fin : ∀ cell : Int, ∃ l s a b c d g h u v : Int, (if cell < 1000000000000000000 then l = 0 else l = cell) ∧ RoomOk (rm l s) ∧ 
      fMod (.int cell) (.int 2147483629) = some (.int a) ∧ mulD (.int 7919) (.int k) = some (.int b) ∧ mulD (.int b) (.int k) = some (.int c) ∧ mulD (.int 48271) (.int k) = some (.int d) ∧
      mulD (.int (a + c + d + 11)) (.int 39373) = some (.int g) ∧ fMod (.int g) (.int 2147483647) = some (.int h) ∧ mulD (.int h) (.int h) = some (.int u) ∧ fMod (.int u) (.int 2147483629) = some (.int v) ∧ v + 1 = s := fun cell => by
    obtain ⟨s, s0, s1, a, b, c, d, g, h, u, v, q⟩ := key cell
    by_cases hc : cell < 1000000000000000000
    · exact ⟨0, s, a, b, c, d, g, h, u, v, by simp [hc], ⟨0, s, rfl, by omega, s0, s1⟩, q⟩
    · exact ⟨cell, s, a, b, c, d, g, h, u, v, by simp [hc], ⟨cell, s, rfl, by omega, s0, s1⟩, q⟩
  by_cases hl : k < ns.length
  · obtain ⟨l, s, a, b, c, d, g, h, u, v, hcell, hr, e1, e2, e3, e4, e5, e6, e7, e8, e9⟩ := fin (ns[k])
    refine ⟨_, ?_, hr⟩
    subst e9
    have hi : L2.atI (ns.map D.int) (k : Int) = some (.int ns[k]) := by rw [atI_of (by omega)]; simp [hl]
    by_cases hc : ns[k] < 1000000000000000000
    · simp [hc] at hcell
      subst hcell
      simp [m__law_pool, b__law_pool, hl, hi, hc, e1, e2, e3, e4, e5, e6, e7, e8, rm]
    · simp [hc] at hcell
      subst hcell
      simp [m__law_pool, b__law_pool, hl, hi, hc, e1, e2, e3, e4, e5, e6, e7, e8, rm]
  · obtain ⟨l, s, a, b, c, d, g, h, u, v, hcell, hr, e1, e2, e3, e4, e5, e6, e7, e8, e9⟩ := fin 0
    refine ⟨_, ?_, hr⟩
    subst e9
    simp at hcell
    subst hcell
    simp [m__law_pool, b__law_pool, hl, e1, e2, e3, e4, e5, e6, e7, e8, rm]
theorem take2_spec {r : D} {n : Int} (hr : RoomOk r) (h0 : 0 < n) (h1 : n < 2 ^ 60) : ∃ (x : Int) (r' : D), m_take2 [r, .int n] = .ok (.int x, r') ∧ RoomOk r' ∧ 0 ≤ x ∧ x < n := by
  obtain ⟨l, s, rfl, l0, s0, s1⟩ := hr
  by_cases hl : 0 < l
  · refine ⟨l % n, rm (l / n) s, ?_, ⟨_, _, rfl, Int.ediv_nonneg (by omega) (by omega), s0, s1⟩, Int.emod_nonneg _ (by omega), Int.emod_lt_of_pos _ h0⟩
    have e1 := fMod_of (a := l) h0
    have e2 := fDiv_of (a := l) h0 (Nat.lt_trans (log2_lt (k := 60) (by omega) (by decide)) (by decide))
    simp [m_take2, b_take2, rm, hl, e1, e2, L2.ixN]
  · obtain rfl : l = 0 := by omega
    have t0 := Int.emod_nonneg (s * 48271 + 12345) (show (2147483647 : Int) ≠ 0 by decide)
    have t1 := Int.emod_lt_of_pos (s * 48271 + 12345) (show (0 : Int) < 2147483647 by decide)
    have e1 : mulD (.int s) (.int 48271) = some (.int (s * 48271)) := mulD_small (by omega) (by decide)
    have e2 := fMod_of (a := s * 48271 + 12345) (show (0 : Int) < 2147483647 by decide)
    generalize (s * 48271 + 12345) % 2147483647 = t at t0 t1 e2
    have e3 : mulD (.int t) (.int t) = some (.int (t * t)) := mulD_small (by omega) (by omega)
    have u0 : 0 ≤ t * t := Int.mul_nonneg t0 t0
    have e4 := fMod_of (a := t * t) (show (0 : Int) < 2147483629 by decide)
    have e5 := fDiv_of (a := t * t % 2147483629) (show (0 : Int) < 64 by decide) (by decide)
    have e6 := fMod_of (a := t * t % 2147483629 / 64) h0
    refine ⟨(t * t % 2147483629 / 64) % n, rm 0 t, ?_, ⟨_, _, rfl, by omega, t0, t1⟩, Int.emod_nonneg _ (by omega), Int.emod_lt_of_pos _ h0⟩
    simp [m_take2, b_take2, rm, e1, e2, e3, e4, e5, e6, L2.ixN]
theorem loop_low (t b : D) (n : Nat) : ∀ (x y : Nat), y ≤ n → ∃ k, whileN W__law_low_1 B__law_low_1 k [t, b, .int x, .int y] = .nx [t, b, .int (Nat.gcd x y), .int 0] := by
  unfold W__law_low_1 B__law_low_1
  induction n with
  | zero =>
    intro x y h
    obtain rfl : y = 0 := by omega
    exact ⟨1, by simp [whileN]⟩
  | succ n ih =>
    intro x y h
    by_cases hy : y = 0
    · subst hy; exact ⟨1, by simp [whileN]⟩
    · obtain ⟨k, hk⟩ := ih y (x % y) (by have := Nat.mod_lt x (Nat.pos_of_ne_zero hy); omega)
      refine ⟨k + 1, ?_⟩
      have e : fMod (.int (x : Int)) (.int (y : Int)) = some (.int ((x % y : Nat) : Int)) := by rw [fMod_of (by omega)]; rfl
      have hp : 0 < y := Nat.pos_of_ne_zero hy
      simp [whileN, e, hp]
      rw [← Int.natCast_emod, hk, Nat.gcd_comm y, ← Nat.gcd_rec, Nat.gcd_comm]
theorem low_spec {a b : Int} (hb : 0 < b) (hs : b.natAbs < 2 ^ 8999) : m__law_low [.int a, .int b] = .ok (fr (Rat.divInt a b), .dead) := by
  rw [fr_divInt hb]
  obtain ⟨k, hk⟩ := loop_low (.int a) (.int b) b.natAbs a.natAbs b.natAbs (Nat.le_refl _)
  have := sWhile_eq hk (by simp)
  have hn : ((b.natAbs : Nat) : Int) = b := by omega
  rw [hn] at this
  have g0 : 0 < Nat.gcd a.natAbs b.natAbs := Nat.gcd_pos_of_pos_right _ (by omega)
  have g1 : (((Nat.gcd a.natAbs b.natAbs : Nat)) : Int).natAbs.log2 < 9000 := by
    have h1 : Nat.gcd a.natAbs b.natAbs ≤ b.natAbs := Nat.gcd_le_right _ (by omega)
    exact Nat.lt_of_lt_of_le (log2_lt (k := 8999) (by rw [Int.natAbs_natCast]; omega) (by decide)) (by decide)
  have d1 := fDiv_of (a := a) (b := ((Nat.gcd a.natAbs b.natAbs : Nat) : Int)) (by omega) g1
  have d2 := fDiv_of (a := b) (b := ((Nat.gcd a.natAbs b.natAbs : Nat) : Int)) (by omega) g1
  simp [m__law_low, b__law_low, this, d1, d2, Int.gcd]
theorem amount2_draw {r : D} (hr : RoomOk r) : ∃ q r', m_amount2 [r] = .ok (fr q, r') ∧ RoomOk r' ∧ Sz q 40 ∧ 0 < q := by
  obtain ⟨x, r1, e1, hr1, x0, x1⟩ := take2_spec hr (n := 6) (by decide) (by decide)
  by_cases h3 : x < 3
  · obtain ⟨a, r2, e2, hr2, a0, a1⟩ := take2_spec hr1 (n := 9) (by decide) (by decide)
    have hq : D.tup [.int (1 + a), .int 1] = fr (Rat.divInt (1 + a) 1) := by rw [fr_divInt (by decide)]; simp
    refine ⟨Rat.divInt (1 + a) 1, r2, ?_, hr2, sz_divInt (by omega) (by omega) (by omega), pos_divInt (by omega) (by decide)⟩
    rw [← hq]
    simp [m_amount2, b_amount2, e1, e2, h3, hr.nd, hr1.nd, hr2.nd]
  · by_cases h5 : x < 5
    · obtain ⟨a, r2, e2, hr2, a0, a1⟩ := take2_spec hr1 (n := 9) (by decide) (by decide)
      refine ⟨Rat.divInt (1 + a) (x - 1), r2, ?_, hr2, sz_divInt (by omega) (by omega) (by omega), pos_divInt (by omega) (by omega)⟩
      simp [m_amount2, b_amount2, e1, e2, h3, h5, hr.nd, hr1.nd, hr2.nd, low_spec (show 0 < x - 1 by omega) (lim60 (by omega))]
    · obtain ⟨a, r2, e2, hr2, a0, a1⟩ := take2_spec hr1 (n := 1000000) (by decide) (by decide)
      obtain ⟨c, r3, e3, hr3, c0, c1⟩ := take2_spec hr2 (n := 1000000) (by decide) (by decide)
      obtain ⟨b, r4, e4, hr4, b0, b1⟩ := take2_spec hr3 (n := 9) (by decide) (by decide)
      have p6 : fPow (.int 10) (.int 6) = some (.int 1000000) := rfl
      have e5 : mulD (.int a) (.int 1000000) = some (.int (a * 1000000)) := mulD_small (by omega) (by decide)
      refine ⟨Rat.divInt (1 + a * 1000000 + c) (1 + b), r4, ?_, hr4, sz_divInt (by omega) (by omega) (by omega), pos_divInt (by omega) (by omega)⟩
      simp [m_amount2, b_amount2, e1, e2, e3, e4, e5, h3, h5, p6, hr.nd, hr1.nd, hr2.nd, hr3.nd, hr4.nd, low_spec (show 0 < 1 + b by omega) (lim60 (by omega))]

/-! ### rows by their keys -/
theorem mem_putG {α : Type} {l : List (Int × α)} {k : Int} {x : α} {e : Int × α} (h : e ∈ putG l k x) : e ∈ l ∨ e = (k, x) := by
  unfold putG at h
  split at h
  · obtain ⟨a, ha, rfl⟩ := List.mem_map.mp h
    by_cases hk : a.1 = k
    · rw [if_pos hk, hk]; exact .inr rfl
    · rw [if_neg hk]; exact .inl ha
  · rcases List.mem_append.mp h with h | h
    · exact .inl h
    · exact .inr (List.mem_singleton.mp h)
theorem mem_mergeG {α : Type} : ∀ (l : List (Int × α)) {a : List (Int × α)} {e : Int × α}, e ∈ l.foldl (fun acc e => putG acc e.1 e.2) a → e ∈ a ∨ e ∈ l
  | [], a, e, h => .inl h
  | x :: l, a, e, h => by
    rcases mem_mergeG l h with h | h
    · rcases mem_putG h with h | h
      · exact .inl h
      · exact .inr (by rw [h]; exact List.mem_cons_self ..)
    · exact .inr (List.mem_cons_of_mem _ h)
def encI (p : Nat × Rat) : Int × D := ((p.1 : Int), fr p.2)
theorem rowD_enc (p : Nat × Rat) : rowD (encI p) = row p := rfl
theorem items_side {m : Nat} {s : List (Nat × Rat)} (h : s.length < 64) (hk : ∀ p ∈ s, p.1 < m ∧ Sz p.2 40 ∧ 0 < p.2) (o : Bool) : ∃ s' : Side, gItems (.lst o (sideL s)) = some (.lst true (sideL s')) ∧ SideOk m s' ∧ s'.length ≤ s.length := by
  have e1 : sideL s = (s.map encI).map rowD := by rw [List.map_map]; rfl
  have hmem : ∀ e ∈ sortG (mergeG (s.map encI)), ∃ p, e = encI p ∧ p ∈ s := fun e he => by
    have h1 := (sortG_perm _).mem_iff.mp he
    rcases mem_mergeG _ h1 with h1 | h1
    · cases h1
    · obtain ⟨p, hp, rfl⟩ := List.mem_map.mp h1
      exact ⟨p, rfl, hp⟩
  have typed : ∀ {rs : List (Int × D)}, (∀ e ∈ rs, ∃ p, e = encI p ∧ p ∈ s) → ∃ xs : List (Nat × Rat), rs = xs.map encI ∧ ∀ x ∈ xs, x ∈ s := by
    intro rs
    induction rs with
    | nil => intro _; exact ⟨[], rfl, by simp⟩
    | cons r rs ih =>
      intro h
      obtain ⟨p, rfl, hp⟩ := h r (by simp)
      obtain ⟨xs, rfl, h2⟩ := ih fun e he => h e (List.mem_cons_of_mem _ he)
      exact ⟨p :: xs, rfl, fun x hx => by rcases List.mem_cons.mp hx with rfl | hx; exact hp; exact h2 x hx⟩
  obtain ⟨xs, hx, hxs⟩ := typed hmem
  have hup : (xs.map encI).Pairwise fun a b => a.1 < b.1 := by
    rw [← hx]
    have h1 := sortG_le (mergeG (s.map encI))
    have h2 : ((sortG (mergeG (s.map encI))).map (·.1)).Nodup := ((sortG_perm _).map (·.1)).nodup_iff.mpr (nodup_merge (s.map encI) (a := []) List.Pairwise.nil)
    have h3 : (sortG (mergeG (s.map encI))).Pairwise fun a b => a.1 ≠ b.1 := List.pairwise_map.mp h2
    exact (h1.and h3).imp fun ⟨a, b⟩ => by omega
  refine ⟨xs, ?_, ⟨?_, fun p hp => (hk p (hxs p hp)).1, fun p hp => (hk p (hxs p hp)).2.1, fun p hp => (hk p (hxs p hp)).2.2⟩, ?_⟩
  · rw [gItems_lst, e1, rowsD_map]
    simp only [Option.bind_some]
    rw [if_pos (by rw [List.length_map]; exact h), hx, List.map_map]
    rfl
  · rw [List.pairwise_map] at hup
    exact hup.imp fun {a b} h => by have h' : (a.1 : Int) < (b.1 : Int) := h; omega
  · have h1 : (sortG (mergeG (s.map encI))).length = (mergeG (s.map encI)).length := (sortG_perm _).length_eq
    have h2 := len_merge (s.map encI) []
    rw [hx, List.length_map] at h1
    rw [List.length_map, List.length_nil] at h2
    unfold mergeG at h1
    omega
/-! ### draws that leave out -/
theorem lcL_fdraw {α : Type} {f : Tgt} {b : Tst} {m : Exp} {vs : List Nat} (enc : Nat → α → D) (P : Nat → α → Prop) (I : Env → Prop) : ∀ (ks : List Nat) (env : Env),
    (∀ k ∈ ks, ∀ env, I env → ∃ e c e', f (.int (k : Nat)) env = some e ∧ b e = .ok (c, e') ∧ (c = false → I (wipeD e' vs)) ∧ (c = true → ∃ x e2, m e' = .ok (enc k x, e2) ∧ I (wipeD e2 vs) ∧ P k x)) → I env →
    ∃ (s : List (Nat × α)) (env' : Env), lcL f b m vs (ks.map fun k => .int (k : Nat)) env = some (s.map fun p => enc p.1 p.2, env') ∧ I env' ∧ (s.map (·.1)).Sublist ks ∧ ∀ p ∈ s, P p.1 p.2
  | [], env, _, h => ⟨[], env, rfl, h, List.Sublist.slnil, by simp⟩
  | k :: ks, env, hs, h => by
    obtain ⟨e, c, e', h1, h2, h3, h4⟩ := hs k (by simp) env h
    cases c with
    | false =>
      obtain ⟨s, env', q1, q2, q3, q4⟩ := lcL_fdraw enc P I ks (wipeD e' vs) (fun x hx => hs x (List.mem_cons_of_mem _ hx)) (h3 rfl)
      refine ⟨s, env', ?_, q2, q3.cons _, q4⟩
      rw [List.map_cons, lcL_cons, h1]
      dsimp only
      rw [h2]
      simp only [Bool.false_eq_true, if_false]
      exact q1
    | true =>
      obtain ⟨x, e2, h5, h6, h7⟩ := h4 rfl
      obtain ⟨s, env', q1, q2, q3, q4⟩ := lcL_fdraw enc P I ks (wipeD e2 vs) (fun x hx => hs x (List.mem_cons_of_mem _ hx)) h6
      refine ⟨(k, x) :: s, env', ?_, q2, q3.cons_cons _, fun p hp => by rcases List.mem_cons.mp hp with rfl | hp; exact h7; exact q4 p hp⟩
      rw [List.map_cons, lcL_cons, h1]
      dsimp only
      rw [h2]
      simp only [if_true]
      rw [h5]
      dsimp only
      rw [q1]
      rfl
theorem rangeD0 (n : Nat) : rangeD 0 n = (List.range n).map fun k => .int (k : Nat) := by
  unfold rangeD
  exact List.map_congr_left fun k _ => by rw [Int.zero_add]
theorem sub_range {ks : List Nat} {n : Nat} (h : ks.Sublist (List.range n)) : ks.Pairwise (· < ·) ∧ ∀ k ∈ ks, k < n :=
  ⟨List.pairwise_lt_range.sublist h, fun k hk => List.mem_range.mp (h.subset hk)⟩
theorem side2_draw {r : D} (hr : RoomOk r) {m : Nat} (hm : 0 < m) (hm2 : m ≤ 1000) : ∃ s r', m_side2 [r, .int m] = .ok (.lst true (sideL s), r') ∧ RoomOk r' ∧ SideOk m s ∧ s.length ≤ m := by
  obtain ⟨n, r1, e1, hr1, n0, n1⟩ := take2_spec hr (n := 4) (by decide) (by decide)
  obtain ⟨s, env', h1, h2, h3, h4⟩ := lcL_fdraw (f := gN 3) (b := bOf (eBin fLt (eCallX m_take2 0 (aC (eV 1) (aN))) (eV 2))) (m := eTup (aC (eV 3) (aC (eCallX m_amount2 0 (aN)) (aN)))) (vs := [3]) (fun k q => row (k, q)) (fun _ q => Sz q 40 ∧ 0 < q)
    (fun env => ∃ r, env = V_side2 r (.int m) (.int n) ∧ RoomOk r) (List.range m) (V_side2 r1 (.int m) (.int n)) (fun k hk env ⟨r, he, hr⟩ => by
      subst he
      obtain ⟨x, r2, e2, hr2, x0, x1⟩ := take2_spec hr (n := (m : Int)) (by omega) (by omega)
      obtain ⟨q, r3, e3, hr3, z, p⟩ := amount2_draw hr2
      refine ⟨_, decide (x < n), V_side2 r2 (.int m) (.int n) (.int k), rfl, ?_, fun _ => ⟨r2, rfl, hr2⟩, fun _ => ⟨q, V_side2 r3 (.int m) (.int n) (.int k), ?_, ⟨r3, rfl, hr3⟩, z, p⟩⟩
      · simp [e2, hr.nd]
      · simp [e3, hr2.nd, row]) ⟨r1, rfl, hr1⟩
  obtain ⟨r2, rfl, hr2⟩ := h2
  have hu := sub_range h3
  refine ⟨s, r2, ?_, hr2, ⟨?_, ?_, fun p hp => (h4 p hp).1, fun p hp => (h4 p hp).2⟩, ?_⟩
  · have hm3 : -1000000 ≤ (m : Int) ∧ (m : Int) ≤ 1000000 := by omega
    have e : sideL s = s.map fun p => row (p.1, p.2) := rfl
    change C_side2_1 _ _ = _ at h1
    rw [← rangeD0] at h1
    have hm4 : (rangeD 0 m).length ≤ 100000 := by rw [rangeD_len]; omega
    rw [e]
    simp [m_side2, b_side2, e1, hr.nd, hm3, hr1.nd, h1, hr2.nd, hm4]
  · have := hu.1
    rw [List.pairwise_map] at this
    exact this
  · exact fun p hp => hu.2 _ (List.mem_map_of_mem hp)
  · have := h3.length_le
    rw [List.length_map, List.length_range] at this
    exact this
theorem cons_side {m j : Nat} {q : Rat} (hj : j < m) (z : Sz q 40) (p : 0 < q) : SideOk m [(j, q)] :=
  ⟨List.pairwise_singleton _ _, fun x hx => by rw [List.mem_singleton.mp hx]; exact hj, fun x hx => by rw [List.mem_singleton.mp hx]; exact z, fun x hx => by rw [List.mem_singleton.mp hx]; exact p⟩
theorem deed2_draw {r : D} (hr : RoomOk r) {m : Nat} (hm : 0 < m) (hm2 : m ≤ 1000) : ∃ d r', m_deed2 [r, .int m] = .ok (deedD true d, r') ∧ RoomOk r' ∧ DeedOk m d ∧ d.1.length ≤ m + 2 ∧ d.2.length ≤ m + 2 := by
  obtain ⟨w, r1, e1, hr1, w0, w1⟩ := take2_spec hr (n := 4) (by decide) (by decide)
  obtain ⟨a, r2, e2, hr2, a0, a1⟩ := take2_spec hr1 (n := (m : Int)) (by omega) (by omega)
  by_cases hw : w = 0
  · subst hw
    obtain ⟨s1, r3, e3, hr3, o1, l1⟩ := side2_draw hr2 hm hm2
    obtain ⟨s2, r4, e4, hr4, o2, l2⟩ := side2_draw hr3 hm hm2
    refine ⟨(s1, s2), r4, ?_, hr4, ⟨o1, o2⟩, by dsimp only; omega, by dsimp only; omega⟩
    simp [m_deed2, b_deed2, e1, e2, e3, e4, hr.nd, hr1.nd, hr2.nd, hr3.nd, hr4.nd, deedD]
  · have hw' : (w == 0) = false := by simpa using hw
    obtain ⟨a, rfl⟩ : ∃ k : Nat, a = (k : Int) := ⟨a.toNat, by omega⟩
    obtain ⟨q1, r3, e3, hr3, z1, p1⟩ := amount2_draw hr2
    obtain ⟨b, r4, e4, hr4, b0, b1⟩ := take2_spec hr3 (n := (m : Int)) (by omega) (by omega)
    obtain ⟨q2, r5, e5, hr5, z2, p2⟩ := amount2_draw hr4
    have e6 := fMod_of (a := (a : Int) + 1 + b) (show (0 : Int) < (m : Int) by omega)
    have c0 := Int.emod_nonneg ((a : Int) + 1 + b) (show (m : Int) ≠ 0 by omega)
    have c1 := Int.emod_lt_of_pos ((a : Int) + 1 + b) (show (0 : Int) < (m : Int) by omega)
    generalize ((a : Int) + 1 + b) % (m : Int) = c at e6 c0 c1
    obtain ⟨c, rfl⟩ : ∃ k : Nat, c = (k : Int) := ⟨c.toNat, by omega⟩
    have rw1 : ∀ (j : Nat) (q : Rat), D.tup [.int (j : Int), fr q] = row (j, q) := fun _ _ => rfl
    have sl : ∀ p : Nat × Rat, [row p] = sideL [p] := fun _ => rfl
    by_cases h2 : w = 2
    · subst h2
      obtain ⟨q3, r6, e7, hr6, z3, p3⟩ := amount2_draw hr5
      obtain ⟨s, g1, g2, g3⟩ := items_side (m := m) (s := [(c, q2), (a, q3)]) (by simp) (fun p hp => by
        simp at hp
        rcases hp with rfl | rfl
        · exact ⟨by dsimp only; omega, z2, p2⟩
        · exact ⟨by dsimp only; omega, z3, p3⟩) true
      refine ⟨([(a, q1)], s), r6, ?_, hr6, ⟨cons_side (by omega) z1 p1, g2⟩, by simp, by simp at g3 ⊢; omega⟩
      have g1' : gItems (.lst true [row (c, q2), row (a, q3)]) = some (.lst true (sideL s)) := g1
      simp [m_deed2, b_deed2, e1, e2, e3, e4, e5, e6, e7, hr.nd, hr1.nd, hr2.nd, hr3.nd, hr4.nd, hr5.nd, hr6.nd, deedD, rw1, g1', sideL]
    · have h2' : (w == 2) = false := by simpa using h2
      by_cases h3 : w = 3
      · subst h3
        obtain ⟨d, r6, e7, hr6, d0, d1⟩ := take2_spec hr5 (n := (m : Int)) (by omega) (by omega)
        obtain ⟨d, rfl⟩ : ∃ k : Nat, d = (k : Int) := ⟨d.toNat, by omega⟩
        obtain ⟨q3, r7, e8, hr7, z3, p3⟩ := amount2_draw hr6
        obtain ⟨s, g1, g2, g3⟩ := items_side (m := m) (s := [(a, q1), (d, q3)]) (by simp) (fun p hp => by
          simp at hp
          rcases hp with rfl | rfl
          · exact ⟨by dsimp only; omega, z1, p1⟩
          · exact ⟨by dsimp only; omega, z3, p3⟩) true
        refine ⟨(s, [(c, q2)]), r7, ?_, hr7, ⟨g2, cons_side (by omega) z2 p2⟩, by simp at g3 ⊢; omega, by simp⟩
        have g1' : gItems (.lst true [row (a, q1), row (d, q3)]) = some (.lst true (sideL s)) := g1
        simp [m_deed2, b_deed2, e1, e2, e3, e4, e5, e6, e7, e8, hr.nd, hr1.nd, hr2.nd, hr3.nd, hr4.nd, hr5.nd, hr6.nd, hr7.nd, deedD, rw1, g1', sideL]
      · have h3' : (w == 3) = false := by simpa using h3
        refine ⟨([(a, q1)], [(c, q2)]), r5, ?_, hr5, ⟨cons_side (by omega) z1 p1, cons_side (by omega) z2 p2⟩, by simp, by simp⟩
        simp [m_deed2, b_deed2, e1, e2, e3, e4, e5, e6, hw', h2', h3', hr.nd, hr1.nd, hr2.nd, hr3.nd, hr4.nd, hr5.nd, deedD, rw1, sideL]
theorem net2_draw {ns : List Int} {at_ : Nat} {most : Nat} (ha : at_ ≤ 900) (h0 : 0 < most) (h1 : most ≤ 1000) : ∃ m ds, m_net2 [.frz (ns.map .int), .int at_, .int most] = .ok (netD true m ds, .dead) ∧ NetOk m ds ∧ 0 < m ∧ m ≤ most ∧ ds.length ≤ 10 ∧ ∀ d ∈ ds, d.1.length ≤ m + 2 ∧ d.2.length ≤ m + 2 := by
  obtain ⟨r, e1, hr⟩ := pool_spec (ns := ns) (k := at_) (by omega)
  obtain ⟨x, r1, e2, hr1, x0, x1⟩ := take2_spec hr (n := (most : Int)) (by omega) (by omega)
  obtain ⟨y, r2, e3, hr2, y0, y1⟩ := take2_spec hr1 (n := 11) (by decide) (by decide)
  obtain ⟨m, hm⟩ : ∃ k : Nat, 1 + x = (k : Int) := ⟨(1 + x).toNat, by omega⟩
  obtain ⟨n, rfl⟩ : ∃ k : Nat, y = (k : Int) := ⟨y.toNat, by omega⟩
  obtain ⟨rs, env', l1, l2, l3, l4⟩ := lcL_draw (f := gN 5) (b := bYes) (m := eCallB m_deed2 [.e (eCallB m__law_pool [.v 0, .e (eBin addD (eBin addD (eV 1) (eC (.int 1))) (eV 5))] (aC (eV 0) (aC (eBin addD (eBin addD (eV 1) (eC (.int 1))) (eV 5)) (aN)))), .v 4] (aC (eCallB m__law_pool [.v 0, .e (eBin addD (eBin addD (eV 1) (eC (.int 1))) (eV 5))] (aC (eV 0) (aC (eBin addD (eBin addD (eV 1) (eC (.int 1))) (eV 5)) (aN)))) (aC (eV 4) (aN)))) (vs := [5])
    (fun env => env = V_net2 (.frz (ns.map .int)) (.int at_) (.int most) r2 (.int m)) (fun r => ∃ d, r = deedD true d ∧ DeedOk m d ∧ d.1.length ≤ m + 2 ∧ d.2.length ≤ m + 2) (rangeD 0 n) _ (fun d hd env he => by
      subst he
      obtain ⟨k, hk, rfl⟩ := mem_rangeD hd
      rw [Int.zero_add]
      obtain ⟨r3, q1, q2⟩ := pool_spec (ns := ns) (k := at_ + 1 + k) (by omega)
      obtain ⟨d, r4, q3, q4, q5, q6⟩ := deed2_draw q2 (m := m) (by omega) (by omega)
      have hk2 : ((at_ + 1 + k : Nat) : Int) = (at_ : Int) + 1 + (k : Int) := by omega
      rw [hk2] at q1
      refine ⟨_, _, deedD true d, V_net2 (.frz (ns.map .int)) (.int at_) (.int most) r2 (.int m) (.int k), rfl, rfl, ?_, rfl, d, rfl, q5, q6⟩
      simp [q1, q3]) rfl
  subst l2
  obtain ⟨ds, k1, k2, k3⟩ := all_typed (enc := deedD true) l4
  rw [rangeD_len] at l3
  subst k1
  refine ⟨m, ds, ?_, ⟨by omega, by omega, fun d hd => (k3 d hd).1⟩, by omega, by omega, by omega, fun d hd => (k3 d hd).2⟩
  change C_net2_1 _ _ = _ at l1
  have hn1 : -1000000 ≤ (n : Int) ∧ (n : Int) ≤ 1000000 := by omega
  have hn2 : (rangeD 0 n).length ≤ 100000 := by rw [rangeD_len]; omega
  simp [m_net2, b_net2, e1, e2, e3, hr.nd, hr1.nd, hr2.nd, hm, hn1, hn2, l1, netD, deedsL]
end Fl

/-! Fl: lists of places, what is wet and dry. -/
namespace Fl
open PySem
def natsL (ks : List Nat) : List D := ks.map fun (k : Nat) => .int (k : Int)
@[simp] theorem natsL_len (ks : List Nat) : (natsL ks).length = ks.length := by simp [natsL]
@[simp] theorem shL_nats (ks : List Nat) : shL (natsL ks) = natsL ks := shL_map (fun _ => rfl) _
@[simp] theorem ownL_nats (ks : List Nat) : ownL (natsL ks) = false := by rw [← shL_nats, ownL_shL]
@[simp] theorem cleanL_nats (ks : List Nat) : cleanL (natsL ks) = true := cleanL_map (fun _ => rfl) _
@[simp] theorem natsL_app (a b : List Nat) : natsL (a ++ b) = natsL a ++ natsL b := by simp [natsL]
theorem natsL_nil : natsL [] = [] := rfl
theorem natsL_cons (k : Nat) (ks : List Nat) : natsL (k :: ks) = .int (k : Int) :: natsL ks := rfl
theorem range_nats (n : Nat) : rangeD 0 n = natsL (List.range n) := rangeD0 n
theorem natsL_ints (ks : List Nat) : natsL ks = (ks.map fun (k : Nat) => (k : Int)).map .int := by simp [natsL]
theorem mem_cast {k : Nat} {ks : List Nat} : (k : Int) ∈ ks.map (fun (k : Nat) => (k : Int)) ↔ k ∈ ks := by
  rw [List.mem_map]
  constructor
  · rintro ⟨a, h, e⟩
    have : a = k := by omega
    subst this; exact h
  · intro h; exact ⟨k, h, rfl⟩
@[simp] theorem fIn_nats {o : Bool} (k : Nat) (ks : List Nat) : fIn (.int (k : Int)) (.lst o (natsL ks)) = some (.bl (decide (k ∈ ks))) := by
  rw [natsL_ints, fIn_ints]
  congr 2
  exact decide_eq_decide.mpr mem_cast
@[simp] theorem fNotIn_nats {o : Bool} (k : Nat) (ks : List Nat) : fNotIn (.int (k : Int)) (.lst o (natsL ks)) = some (.bl (!decide (k ∈ ks))) := by
  rw [natsL_ints, fNotIn_ints]
  congr 3
  exact decide_eq_decide.mpr mem_cast
@[simp] theorem gSort_nats {o : Bool} (ks : List Nat) : gSort (.lst o (natsL ks)) = some (.lst true (natsL ks.mergeSort)) := by
  have := gSort_d ks (o := o)
  have e : (dkeys ks).map keyD = natsL ks := by unfold dkeys natsL; rw [List.map_map]; rfl
  rw [e] at this
  exact this
theorem pl_nats (o : Bool) (ks : List Nat) : pl (.lst o (natsL ks)) 2 = true := by
  simp only [pl]; exact plL_map _ fun x _ => rfl
theorem nats_eq (a b : Bool) (ks : List Nat) : fEq (.lst a (natsL ks)) (.lst b (natsL ks)) = some (.bl true) ∧ fNe (.lst a (natsL ks)) (.lst b (natsL ks)) = some (.bl false) :=
  fEq_same (n := 2) (pl_nats a ks) (by decide) rfl
/-- a loop over numbers that may end early -/
theorem forL_nats {f : Tgt} {body : Stm} (I : Env → Prop) (bad : Nat → Bool) (r : D) : ∀ (ks : List Nat) (env : Env), (∀ k ∈ ks, ∀ env, I env → ∃ e1, f (.int (k : Nat)) env = some e1 ∧ ((bad k = true → ∃ e2, body e1 = .rt r e2) ∧ (bad k = false → ∃ e2, (body e1 = .nx e2 ∨ body e1 = .ct e2) ∧ I e2))) → I env →
    (ks.any bad = true → ∃ e, forL f body (natsL ks) env = .rt r e) ∧ (ks.any bad = false → ∃ e, forL f body (natsL ks) env = .nx e ∧ I e)
  | [], env, _, h => ⟨fun x => by simp at x, fun _ => ⟨env, rfl, h⟩⟩
  | k :: ks, env, hs, h => by
    obtain ⟨e1, h1, h2, h3⟩ := hs k (by simp) env h
    rw [natsL_cons, List.any_cons, forL, h1]
    dsimp only
    cases hb : bad k with
    | true =>
      obtain ⟨e2, h4⟩ := h2 hb
      rw [h4]
      exact ⟨fun _ => ⟨e2, rfl⟩, fun x => by simp at x⟩
    | false =>
      obtain ⟨e2, h4, h5⟩ := h3 hb
      have ih := forL_nats I bad r ks e2 (fun x hx => hs x (List.mem_cons_of_mem _ hx)) h5
      simp only [Bool.false_or]
      rcases h4 with h4 | h4 <;> (rw [h4]; exact ih)
/-! ### the sides' places -/
def tks (d : Deed) : List Nat := d.1.map (·.1)
def gvs (d : Deed) : List Nat := d.2.map (·.1)
theorem copy2_spec {m : Nat} {ds : List (Side × Side)} (hn : ds.length ≤ 1000) : m_copy2 [netD false m ds] = .ok (netD true m ds, .dead) := by
  have lc : C_copy2_1 (deedsL false ds) (V_copy2 (netD false m ds)) = some (deedsL true ds, V_copy2 (netD false m ds)) :=
    lcL_map ds _ _ fun d hd => ⟨_, _, _, rfl, rfl, by simp; exact ⟨rfl, rfl⟩, rfl⟩
  have hn' : ds.length ≤ 100000 := by omega
  simp [m_copy2, b_copy2, lc, hn']
  simp [netD]
theorem deed_atI {m : Nat} {ds : List Deed} {k : Nat} (h : k < ds.length) : L2.atI (deedsL false ds) (k : Int) = some (deedD false (dd ds k)) := by
  rw [deeds_at h]
  unfold dd
  rw [List.getD_eq_getElem?_getD, List.getElem?_eq_getElem h]; rfl
theorem takes_spec {m : Nat} {ds : List Deed} {k : Nat} (h : k < ds.length) (hl : (dd ds k).1.length ≤ 1000) : m_takes_from [netD false m ds, .int k] = .ok (.lst true (natsL (tks (dd ds k))), .dead) := by
  have e1 := deed_atI (m := m) h
  have lc : C_takes_from_1 (sideL (dd ds k).1) (V_takes_from (netD false m ds) (.int k)) = some (natsL (tks (dd ds k)), V_takes_from (netD false m ds) (.int k)) := by
    have := lcL_map (f := gT 2 (gsC (gN 2) (gsC (gN 3) (gsN)))) (b := bYes) (m := eV 2) (vs := [2, 3]) (env := V_takes_from (netD false m ds) (.int k)) (dd ds k).1 row (fun p => .int (p.1 : Int)) fun p hp => ⟨V_takes_from (netD false m ds) (.int k) (.int (p.1 : Int)) (fr p.2), V_takes_from (netD false m ds) (.int k) (.int (p.1 : Int)) (fr p.2), V_takes_from (netD false m ds) (.int k) (.int (p.1 : Int)) (fr p.2), by simp [row], rfl, by simp, rfl⟩
    unfold C_takes_from_1
    rw [show sideL (dd ds k).1 = (dd ds k).1.map row from rfl, this]
    simp [natsL, tks]
  have hl' : (dd ds k).1.length ≤ 100000 := by omega
  simp [m_takes_from, b_takes_from, e1, lc, hl']
theorem gives_spec {m : Nat} {ds : List Deed} {k : Nat} (h : k < ds.length) (hl : (dd ds k).2.length ≤ 1000) : m_gives_to [netD false m ds, .int k] = .ok (.lst true (natsL (gvs (dd ds k))), .dead) := by
  have e1 := deed_atI (m := m) h
  have lc : C_gives_to_1 (sideL (dd ds k).2) (V_gives_to (netD false m ds) (.int k)) = some (natsL (gvs (dd ds k)), V_gives_to (netD false m ds) (.int k)) := by
    have := lcL_map (f := gT 2 (gsC (gN 2) (gsC (gN 3) (gsN)))) (b := bYes) (m := eV 2) (vs := [2, 3]) (env := V_gives_to (netD false m ds) (.int k)) (dd ds k).2 row (fun p => .int (p.1 : Int)) fun p hp => ⟨V_gives_to (netD false m ds) (.int k) (.int (p.1 : Int)) (fr p.2), V_gives_to (netD false m ds) (.int k) (.int (p.1 : Int)) (fr p.2), V_gives_to (netD false m ds) (.int k) (.int (p.1 : Int)) (fr p.2), by simp [row], rfl, by simp, rfl⟩
    unfold C_gives_to_1
    rw [show sideL (dd ds k).2 = (dd ds k).2.map row from rfl, this]
    simp [natsL, gvs]
  have hl' : (dd ds k).2.length ≤ 100000 := by omega
  simp [m_gives_to, b_gives_to, e1, lc, hl']
theorem have_spec {a b : List Nat} {o o' : Bool} (ha : a.length ≤ 1000) : m_have_some [.lst o (natsL a), .lst o' (natsL b)] = .ok (.bl (a.any fun k => decide (k ∈ b)), .dead) := by
  have lc : ∀ o, C_have_some_1 (natsL a) (V_have_some (.lst o (natsL a)) (.lst o' (natsL b))) = some (natsL (a.filter fun k => decide (k ∈ b)), V_have_some (.lst o (natsL a)) (.lst o' (natsL b))) := fun o =>
    lcL_filter (f := gN 2) (b := bOf (eBinV fIn (eV 2) 1)) (m := eV 2) (vs := [2]) a (fun k => .int (k : Nat)) (fun k => .int (k : Nat)) (fun k => decide (k ∈ b)) fun k hk => ⟨_, V_have_some (.lst o (natsL a)) (.lst o' (natsL b)) (.int k), rfl, by simp, fun _ => rfl, fun _ => ⟨V_have_some (.lst o (natsL a)) (.lst o' (natsL b)) (.int k), by simp, rfl⟩⟩
  have hl : a.length ≤ 100000 := by omega
  have e : decide (0 < (a.filter fun k => decide (k ∈ b)).length) = a.any fun k => decide (k ∈ b) := by
    rw [Bool.eq_iff_iff, decide_eq_true_eq, List.length_pos_iff_exists_mem, List.any_eq_true]
    simp
  have e' : (decide ((0 : Int) < ((a.filter fun k => decide (k ∈ b)).length : Int))) = a.any fun k => decide (k ∈ b) := by rw [← e]; exact decide_eq_decide.mpr (by omega)
  generalize (a.filter fun k => decide (k ∈ b)) = l at lc e e'
  rw [← e']
  cases o <;> simp [m_have_some, b_have_some, lc, hl]

/-! ### dry sets -/
def badD (ds : List Deed) (ps : List Nat) (k : Nat) : Bool := ((gvs (dd ds k)).any fun p => decide (p ∈ ps)) && !((tks (dd ds k)).any fun p => decide (p ∈ ps))
def dryB (f : Nat → Rat) (ds : List Deed) (ks ps : List Nat) : Bool := !(ps.any fun p => decide (0 < (f p).num)) && !(ks.any (badD ds ps))
/-- numbers below m -/
structure Nums (m : Nat) (ks : List Nat) : Prop where
  lt : ∀ k ∈ ks, k < m
  n : ks.length ≤ 1000
theorem isEmpty_any {α : Type} (l : List α) (p : α → Bool) : (l.filter p).isEmpty = !l.any p := by
  rw [Bool.eq_iff_iff]
  simp
theorem is_dry_spec {m : Nat} {ds : List Deed} {f : Nat → Rat} {ks ps : List Nat} {o o' o'' : Bool} (hN : ∀ d ∈ ds, d.1.length ≤ 1000 ∧ d.2.length ≤ 1000) (hk : Nums ds.length ks) (hp : Nums m ps) :
    m_is_dry [netD false m ds, .lst o (frR m f), .lst o' (natsL ks), .lst o'' (natsL ps)] = .ok (.bl (dryB f ds ks ps), .dead) := by
  have hdd : ∀ k < ds.length, (dd ds k).1.length ≤ 1000 ∧ (dd ds k).2.length ≤ 1000 := fun k h => by
    unfold dd
    rw [List.getD_eq_getElem?_getD, List.getElem?_eq_getElem h]; exact hN _ (List.getElem_mem h)
  have lc : ∀ env, (∃ o2, env = V_is_dry (netD false m ds) (.lst o (frR m f)) (.lst o' (natsL ks)) (.lst o2 (natsL ps))) → C_is_dry_1 (natsL ps) env = some (natsL (ps.filter fun p => decide (0 < (f p).num)), env) := fun env ⟨o2, he⟩ => by
    subst he
    exact lcL_filter ps (fun k => .int (k : Nat)) (fun k => .int (k : Nat)) (fun p => decide (0 < (f p).num)) fun k hk =>
      ⟨_, V_is_dry (netD false m ds) (.lst o (frR m f)) (.lst o' (natsL ks)) (.lst o2 (natsL ps)) .dead (.int k), rfl, by simp [frR_at (hp.lt k hk)], fun _ => rfl, fun _ => ⟨V_is_dry (netD false m ds) (.lst o (frR m f)) (.lst o' (natsL ks)) (.lst o2 (natsL ps)) .dead (.int k), by simp, rfl⟩⟩
  have lo := forL_nats (f := T_is_dry_2) (body := B_is_dry_2) (fun env => ∃ (d : D), env = V_is_dry (netD false m ds) (.lst o (frR m f)) (.lst false (natsL ks)) (.lst false (natsL ps)) d) (badD ds ps) (.bl false) ks (V_is_dry (netD false m ds) (.lst o (frR m f)) (.lst false (natsL ks)) (.lst false (natsL ps))) (fun k hkk env ⟨d, he⟩ => by
    subst he
    have h1 := hk.lt k hkk
    have e1 := gives_spec (m := m) h1 (hdd k h1).2
    have e2 := takes_spec (m := m) h1 (hdd k h1).1
    have e3 : ∀ o o', m_have_some [.lst o (natsL (gvs (dd ds k))), .lst o' (natsL ps)] = _ := fun o o' => have_spec (a := gvs (dd ds k)) (b := ps) (by simp [gvs]; exact (hdd k h1).2)
    have e4 : ∀ o o', m_have_some [.lst o (natsL (tks (dd ds k))), .lst o' (natsL ps)] = _ := fun o o' => have_spec (a := tks (dd ds k)) (b := ps) (by simp [tks]; exact (hdd k h1).1)
    refine ⟨_, rfl, fun hb => ?_, fun hb => ⟨V_is_dry (netD false m ds) (.lst o (frR m f)) (.lst false (natsL ks)) (.lst false (natsL ps)) (.int k), .inl ?_, _, rfl⟩⟩
    · unfold badD at hb
      simp only [Bool.and_eq_true] at hb
      refine ⟨V_is_dry (netD false m ds) (.lst o (frR m f)) (.lst false (natsL ks)) (.lst false (natsL ps)) (.int k), ?_⟩
      simp only [Bool.not_eq_true'] at hb
      simp only [hb.1] at e3
      simp only [hb.2] at e4
      simp [B_is_dry_2, e1, e2, e3, e4]
    · unfold badD at hb
      generalize ((gvs (dd ds k)).any fun p => decide (p ∈ ps)) = x at hb e3
      generalize ((tks (dd ds k)).any fun p => decide (p ∈ ps)) = y at hb e4
      cases x <;> cases y <;> simp at hb <;> simp [B_is_dry_2, e1, e2, e3, e4]) ⟨.dead, rfl⟩
  have hl : ps.length ≤ 100000 := by have := hp.n; omega
  have hem := isEmpty_any ps fun p => decide (0 < (f p).num)
  unfold dryB
  generalize (ps.any fun p => decide (0 < (f p).num)) = x at hem
  generalize (ps.filter fun p => decide (0 < (f p).num)) = l at lc hem
  cases x with
  | true =>
    have hx : 0 < l.length := by cases l with
      | nil => simp at hem
      | cons a l => simp
    cases o'' <;> simp [m_is_dry, b_is_dry, lc, hl, hx]
  | false =>
    have hx : ¬ 0 < l.length := by cases l with
      | nil => simp
      | cons a l => simp at hem
    cases hb : ks.any (badD ds ps) with
    | true =>
      obtain ⟨e, h1⟩ := lo.1 hb
      cases o'' <;> cases o' <;> simp [m_is_dry, b_is_dry, lc, hl, hx, h1]
    | false =>
      obtain ⟨e, h1, _⟩ := lo.2 hb
      cases o'' <;> cases o' <;> simp [m_is_dry, b_is_dry, lc, hl, hx, h1]
end Fl

/-! Fl: what can be wet. -/
namespace Fl
open PySem
def wst (ds : List Deed) (s : List Nat × List Nat) (k : Nat) : List Nat × List Nat :=
  if k ∉ s.2 ∧ ∀ p ∈ tks (dd ds k), p ∈ s.1 then (s.1 ++ (gvs (dd ds k)).filter fun p => !decide (p ∈ s.1), s.2 ++ [k]) else s
def wrd (ds : List Deed) (ks : List Nat) (s : List Nat × List Nat) : List Nat × List Nat := ks.foldl (wst ds) s
def wit (ds : List Deed) (ks : List Nat) : Nat → List Nat × List Nat → List Nat × List Nat
  | 0, s => s
  | n + 1, s => wit ds ks n (wrd ds ks s)
def wet0 (m : Nat) (f : Nat → Rat) : List Nat := (List.range m).filter fun p => decide (0 < (f p).num)
structure WInv (m : Nat) (ks : List Nat) (s : List Nat × List Nat) : Prop where
  w : s.1.Nodup
  wl : ∀ p ∈ s.1, p < m
  a : s.2.Nodup
  al : ∀ k ∈ s.2, k ∈ ks
theorem nodup_sub : ∀ {l m : List Nat}, l.Nodup → (∀ p ∈ l, p ∈ m) → l.length ≤ m.length
  | [], m, _, _ => Nat.zero_le _
  | a :: l, m, h1, h2 => by
    rw [List.nodup_cons] at h1
    have ha := h2 a (by simp)
    have ih := nodup_sub (l := l) (m := m.erase a) h1.2 fun p hp => (List.mem_erase_of_ne (fun (e : p = a) => h1.1 (by rw [← e]; exact hp))).mpr (h2 p (List.mem_cons_of_mem _ hp))
    rw [List.length_erase_of_mem ha] at ih
    have := List.length_pos_of_mem ha
    rw [List.length_cons]
    omega
theorem nodup_len {m : Nat} {l : List Nat} (h1 : l.Nodup) (h2 : ∀ p ∈ l, p < m) : l.length ≤ m := by
  have := nodup_sub (m := List.range m) h1 fun p hp => List.mem_range.mpr (h2 p hp)
  rwa [List.length_range] at this
theorem WInv.len {m : Nat} {ks : List Nat} {s : List Nat × List Nat} (h : WInv m ks s) : s.1.length ≤ m := nodup_len h.w h.wl
theorem WInv.len2 {m : Nat} {ks : List Nat} {s : List Nat × List Nat} (h : WInv m ks s) : s.2.length ≤ ks.length :=
  nodup_sub h.a h.al
theorem gvs_up {m : Nat} {d : Deed} (h : DeedOk m d) : (gvs d).Nodup ∧ ∀ p ∈ gvs d, p < m := by
  refine ⟨?_, fun p hp => ?_⟩
  · exact (List.pairwise_map.mpr h.r.up).imp fun h => Nat.ne_of_lt h
  · obtain ⟨x, hx, rfl⟩ := List.mem_map.mp hp
    exact h.r.lt x hx
theorem WInv.st {m : Nat} {ds : List Deed} {ks : List Nat} {s : List Nat × List Nat} (hN : NetOk m ds) (h : WInv m ks s) {k : Nat} (hk : k ∈ ks) : WInv m ks (wst ds s k) := by
  unfold wst
  split
  · rename_i hc
    have hg := gvs_up (hN.dd k)
    refine ⟨List.nodup_append.mpr ⟨h.w, hg.1.filter _, fun a ha b hb e => ?_⟩, fun p hp => ?_, List.nodup_append.mpr ⟨h.a, List.pairwise_singleton _ _, fun a ha b hb e => ?_⟩, fun x hx => ?_⟩
    · have := (List.mem_filter.mp hb).2
      subst e
      simp [ha] at this
    · rcases List.mem_append.mp hp with hp | hp
      · exact h.wl p hp
      · exact hg.2 p (List.mem_filter.mp hp).1
    · rw [List.mem_singleton.mp hb] at e
      subst e
      exact hc.1 ha
    · rcases List.mem_append.mp hx with hx | hx
      · exact h.al x hx
      · rw [List.mem_singleton.mp hx]; exact hk
  · exact h
theorem WInv.rd {m : Nat} {ds : List Deed} {ks : List Nat} (hN : NetOk m ds) : ∀ {l : List Nat} {s : List Nat × List Nat}, (∀ k ∈ l, k ∈ ks) → WInv m ks s → WInv m ks (wrd ds l s)
  | [], s, _, h => h
  | k :: l, s, hl, h => WInv.rd hN (l := l) (fun x hx => hl x (List.mem_cons_of_mem _ hx)) (h.st hN (hl k (by simp)))
theorem WInv.it {m : Nat} {ds : List Deed} {ks : List Nat} (hN : NetOk m ds) : ∀ (n : Nat) {s : List Nat × List Nat}, WInv m ks s → WInv m ks (wit ds ks n s)
  | 0, s, h => h
  | n + 1, s, h => WInv.it hN n (h.rd hN fun _ h => h)
theorem WInv.start {m : Nat} {ks : List Nat} {f : Nat → Rat} : WInv m ks (wet0 m f, []) :=
  ⟨List.nodup_range.filter _, fun p hp => List.mem_range.mp (List.mem_filter.mp hp).1, List.nodup_nil, fun k hk => by cases hk⟩
def rowF (s : Side) (q : Nat → Bool) : List D := sideL (s.filter fun p => q p.1)
theorem law_can_be_spec {m : Nat} {ds : List Deed} {f : Nat → Rat} {ks : List Nat} {o : Bool} (hN : NetOk m ds) (hl : ∀ d ∈ ds, d.1.length ≤ 1000 ∧ d.2.length ≤ 1000) (hk : Nums ds.length ks) :
    m__law_can_be [netD false m ds, .lst o (frR m f), .lst false (natsL ks)] = .ok (.tup [.lst true (natsL (wit ds ks ks.length (wet0 m f, [])).1.mergeSort), .lst true (natsL (wit ds ks ks.length (wet0 m f, [])).2.mergeSort)], .dead) := by
  have hm := hN.mm
  have hdd : ∀ k < ds.length, (dd ds k).1.length ≤ 1000 ∧ (dd ds k).2.length ≤ 1000 := fun k h => by
    unfold dd
    rw [List.getD_eq_getElem?_getD, List.getElem?_eq_getElem h]; exact hl _ (List.getElem_mem h)
  have lc1 : C__law_can_be_1 (rangeD 0 m) (V__law_can_be (netD false m ds) (.lst o (frR m f)) (.lst false (natsL ks))) = some (natsL (wet0 m f), V__law_can_be (netD false m ds) (.lst o (frR m f)) (.lst false (natsL ks))) := by
    rw [range_nats]
    exact lcL_filter (List.range m) (fun k => .int (k : Nat)) (fun k => .int (k : Nat)) (fun p => decide (0 < (f p).num)) fun k hk =>
      ⟨_, V__law_can_be (netD false m ds) (.lst o (frR m f)) (.lst false (natsL ks)) .dead .dead .dead .dead .dead .dead (.int k), rfl, by simp [frR_at (List.mem_range.mp hk)], fun _ => rfl, fun _ => ⟨V__law_can_be (netD false m ds) (.lst o (frR m f)) (.lst false (natsL ks)) .dead .dead .dead .dead .dead .dead (.int k), by simp, rfl⟩⟩
  -- one deed
  have one : ∀ (s : List Nat × List Nat) (t a b c : D) (k : Nat), WInv m ks s → k ∈ ks → ∃ a' b' : D,
      B__law_can_be_4 (V__law_can_be (netD false m ds) (.lst o (frR m f)) (.lst false (natsL ks)) (.lst true (natsL s.1)) (.lst true (natsL s.2)) t (.int k) b c) =
        .nx (V__law_can_be (netD false m ds) (.lst o (frR m f)) (.lst false (natsL ks)) (.lst true (natsL (wst ds s k).1)) (.lst true (natsL (wst ds s k).2)) t (.int k) a' b') := fun s t a b c k hs hkk => by
    have h1 := hk.lt k hkk
    have e1 := deed_atI (m := m) h1
    have z := hdd k h1
    have zl := hs.len
    have zl2 := hs.len2
    have kn := hk.n
    have z1 : (dd ds k).1.length ≤ 100000 := by omega
    have z2 : (dd ds k).2.length ≤ 100000 := by omega
    have z3 : s.2.length < 100000 := by omega
    have ev : ∀ (a b : Bool), ∃ W : Fl.Env, W = V__law_can_be (netD false m ds) (.lst o (frR m f)) (.lst false (natsL ks)) (.lst true (natsL s.1)) (.lst true (natsL s.2)) t (.int k) (.lst a (sideL (dd ds k).1)) (.lst b (sideL (dd ds k).2)) := fun a b => ⟨_, rfl⟩
    have lc2 : ∀ E : Fl.Env, (∃ g : D, E = V__law_can_be (netD false m ds) (.lst o (frR m f)) (.lst false (natsL ks)) (.lst true (natsL s.1)) (.lst true (natsL s.2)) t (.int k) (.lst false (sideL (dd ds k).1)) g) → C__law_can_be_2 (sideL (dd ds k).1) E = some (sideL ((dd ds k).1.filter fun p => !decide (p.1 ∈ s.1)), E) := fun E ⟨g, hE⟩ => by
      rw [hE]
      exact lcL_filter (dd ds k).1 row row (fun p => !decide (p.1 ∈ s.1)) fun p hp =>
        ⟨_, V__law_can_be (netD false m ds) (.lst o (frR m f)) (.lst false (natsL ks)) (.lst true (natsL s.1)) (.lst true (natsL s.2)) t (.int k) (.lst false (sideL (dd ds k).1)) g .dead (row p), rfl, by simp [row], fun _ => rfl, fun _ => ⟨V__law_can_be (netD false m ds) (.lst o (frR m f)) (.lst false (natsL ks)) (.lst true (natsL s.1)) (.lst true (natsL s.2)) t (.int k) (.lst false (sideL (dd ds k).1)) g .dead (row p), by simp [row], rfl⟩⟩
    have lc3 : ∀ (A : D) (tk : D), C__law_can_be_3 (sideL (dd ds k).2) (V__law_can_be (netD false m ds) (.lst o (frR m f)) (.lst false (natsL ks)) (.lst true (natsL s.1)) A t (.int k) tk (.lst false (sideL (dd ds k).2))) = some (natsL ((gvs (dd ds k)).filter fun p => !decide (p ∈ s.1)), V__law_can_be (netD false m ds) (.lst o (frR m f)) (.lst false (natsL ks)) (.lst true (natsL s.1)) A t (.int k) tk (.lst false (sideL (dd ds k).2))) := fun A tk => by
      have := lcL_filter (f := gN 10) (b := bOf (eBinV fNotIn (eIxV 10 (eC (.int 0))) 3)) (m := eIxV 10 (eC (.int 0))) (vs := [10]) (env := V__law_can_be (netD false m ds) (.lst o (frR m f)) (.lst false (natsL ks)) (.lst true (natsL s.1)) A t (.int k) tk (.lst false (sideL (dd ds k).2))) (dd ds k).2 row (fun p => .int (p.1 : Nat)) (fun p => !decide (p.1 ∈ s.1)) fun p hp =>
        ⟨_, V__law_can_be (netD false m ds) (.lst o (frR m f)) (.lst false (natsL ks)) (.lst true (natsL s.1)) A t (.int k) tk (.lst false (sideL (dd ds k).2)) .dead (row p), rfl, by simp [row], fun _ => rfl, fun _ => ⟨V__law_can_be (netD false m ds) (.lst o (frR m f)) (.lst false (natsL ks)) (.lst true (natsL s.1)) A t (.int k) tk (.lst false (sideL (dd ds k).2)) .dead (row p), by simp [row], rfl⟩⟩
      have e : ((dd ds k).2.filter fun p => !decide (p.1 ∈ s.1)).map (fun p => D.int (p.1 : Nat)) = natsL ((gvs (dd ds k)).filter fun p => !decide (p ∈ s.1)) := by
        simp only [natsL, gvs, List.filter_map, List.map_map]
        rfl
      rw [e] at this
      exact this
    have hfil := isEmpty_any (dd ds k).1 fun p => !decide (p.1 ∈ s.1)
    have hzz : ((gvs (dd ds k)).filter fun p => !decide (p ∈ s.1)).length ≤ 1000 := Nat.le_trans (List.length_filter_le _ _) (by simp [gvs]; exact z.2)
    have hz5 : s.1.length + ((gvs (dd ds k)).filter fun p => !decide (p ∈ s.1)).length ≤ 100000 := by omega
    have hq := fEq_nilL (a := true) (b := true) (xs := sideL ((dd ds k).1.filter fun p => !decide (p.1 ∈ s.1))) (n := 3) (plL_map _ fun p _ => pl_row p 1) (by decide)
    have hem : (sideL ((dd ds k).1.filter fun p => !decide (p.1 ∈ s.1))).isEmpty = !((dd ds k).1.any fun p => !decide (p.1 ∈ s.1)) := by
      rw [← hfil]; simp [sideL]
    rw [hem] at hq
    by_cases ha : k ∈ s.2
    · have hw : wst ds s k = s := if_neg fun h => h.1 ha
      rw [hw]
      exact ⟨.lst false (sideL (dd ds k).1), .lst false (sideL (dd ds k).2), by simp [B__law_can_be_4, e1, deedD, ha]⟩
    · cases hx : (dd ds k).1.any fun p => !decide (p.1 ∈ s.1) with
      | true =>
        have hw : wst ds s k = s := if_neg fun h => by
          obtain ⟨p, hp, hp2⟩ := List.any_eq_true.mp hx
          have := h.2 p.1 (List.mem_map_of_mem hp)
          simp [this] at hp2
        rw [hw]
        rw [hx] at hq
        exact ⟨.lst false (sideL (dd ds k).1), .lst false (sideL (dd ds k).2), by simp [B__law_can_be_4, e1, deedD, ha, lc2, z1, hq.1]⟩
      | false =>
        have hw : wst ds s k = (s.1 ++ (gvs (dd ds k)).filter fun p => !decide (p ∈ s.1), s.2 ++ [k]) := if_pos ⟨ha, fun p hp => by
          obtain ⟨r, hr, rfl⟩ := List.mem_map.mp hp
          have := List.any_eq_false.mp hx r hr
          simpa using this⟩
        rw [hw]
        rw [hx] at hq
        exact ⟨.lst false (sideL (dd ds k).1), .lst false (sideL (dd ds k).2), by simp [B__law_can_be_4, e1, deedD, ha, lc2, lc3, z1, z2, z3, hq.1, hz5, natsL_cons, natsL_nil, isLst]⟩
  -- one round
  have rnd : ∀ (l : List Nat) (s : List Nat × List Nat) (t a b c : D), (∀ k ∈ l, k ∈ ks) → WInv m ks s → ∃ a' b' c' : D,
      forL T__law_can_be_4 B__law_can_be_4 (natsL l) (V__law_can_be (netD false m ds) (.lst o (frR m f)) (.lst false (natsL ks)) (.lst true (natsL s.1)) (.lst true (natsL s.2)) t a b c) =
        .nx (V__law_can_be (netD false m ds) (.lst o (frR m f)) (.lst false (natsL ks)) (.lst true (natsL (wrd ds l s).1)) (.lst true (natsL (wrd ds l s).2)) t a' b' c') := fun l => by
    induction l with
    | nil => intro s t a b c _ _; exact ⟨a, b, c, rfl⟩
    | cons k l ih =>
      intro s t a b c hl hs
      obtain ⟨a', b', h1⟩ := one s t a b c k hs (hl k (by simp))
      obtain ⟨a2, b2, c2, h2⟩ := ih (wst ds s k) t (.int k) a' b' (fun x hx => hl x (List.mem_cons_of_mem _ hx)) (hs.st hN (hl k (by simp)))
      refine ⟨a2, b2, c2, ?_⟩
      rw [natsL_cons]
      exact (forL_step (by rfl) h1).trans h2
  have its : ∀ (l : List D) (s : List Nat × List Nat) (t a b c : D), WInv m ks s → ∃ t' a' b' c' : D,
      forL T__law_can_be_5 B__law_can_be_5 l (V__law_can_be (netD false m ds) (.lst o (frR m f)) (.lst false (natsL ks)) (.lst true (natsL s.1)) (.lst true (natsL s.2)) t a b c) =
        .nx (V__law_can_be (netD false m ds) (.lst o (frR m f)) (.lst false (natsL ks)) (.lst true (natsL (wit ds ks l.length s).1)) (.lst true (natsL (wit ds ks l.length s).2)) t' a' b' c') := fun l => by
    induction l with
    | nil => intro s t a b c _; exact ⟨t, a, b, c, rfl⟩
    | cons d l ih =>
      intro s t a b c hs
      obtain ⟨a', b', c', h1⟩ := rnd ks s d a b c (fun _ h => h) hs
      obtain ⟨t2, a2, b2, c2, h2⟩ := ih (wrd ds ks s) d a' b' c' (hs.rd hN fun _ h => h)
      refine ⟨t2, a2, b2, c2, ?_⟩
      have hB : B__law_can_be_5 (V__law_can_be (netD false m ds) (.lst o (frR m f)) (.lst false (natsL ks)) (.lst true (natsL s.1)) (.lst true (natsL s.2)) d a b c) = .nx (V__law_can_be (netD false m ds) (.lst o (frR m f)) (.lst false (natsL ks)) (.lst true (natsL (wrd ds ks s).1)) (.lst true (natsL (wrd ds ks s).2)) d a' b' c') := by
        simp [B__law_can_be_5, h1]
      exact (forL_step (by rfl) hB).trans h2
  have kn := hk.n
  have hm1 : -1000000 ≤ (m : Int) ∧ (m : Int) ≤ 1000000 := by omega
  have hm2 : m ≤ 100000 := by omega
  have hk1 : -1000000 ≤ (ks.length : Int) ∧ (ks.length : Int) ≤ 1000000 := by omega
  have key : ∀ s, WInv m ks s → ∃ t' a' b' c' : D, forL T__law_can_be_5 B__law_can_be_5 (rangeD 0 ks.length) (V__law_can_be (netD false m ds) (.lst o (frR m f)) (.lst false (natsL ks)) (.lst true (natsL s.1)) (.lst true (natsL s.2))) =
        .nx (V__law_can_be (netD false m ds) (.lst o (frR m f)) (.lst false (natsL ks)) (.lst true (natsL (wit ds ks ks.length s).1)) (.lst true (natsL (wit ds ks ks.length s).2)) t' a' b' c') := fun s hs => by
    have := its (rangeD 0 ks.length) s .dead .dead .dead .dead hs
    rwa [rangeD_len] at this
  obtain ⟨t', a', b', c', hf⟩ := key (wet0 m f, []) WInv.start
  generalize wit ds ks ks.length (wet0 m f, []) = S at hf
  simp only [natsL_nil] at hf
  simp [m__law_can_be, b__law_can_be, hm1, hm2, rangeD_len, lc1, hk1, hf]
theorem stand2_draw {r : D} {m : Nat} (hr : RoomOk r) (hm : m ≤ 1000) : ∃ (f : Nat → Rat) (r' : D), m_stand2 [r, .int m] = .ok (.lst true (frR m f), r') ∧ RoomOk r' ∧ ∀ j, Sz (f j) 40 ∧ 0 ≤ f j := by
  obtain ⟨w, r1, e1, hr1, w0, w1⟩ := take2_spec hr (n := 4) (by decide) (by decide)
  obtain ⟨ea, h1, r2, l, a, b, rfl, hr2, hl, hq⟩ := forL_rng (z := 0) (f := T_stand2_1) (body := B_stand2_1) (fun k env => ∃ (r1 : D) (l : List Rat) (a b : D), env = V_stand2 r1 (.int m) (.int w) (.lst true (l.map fr)) a b ∧ RoomOk r1 ∧ l.length = k ∧ ∀ x ∈ l, Sz x 40 ∧ 0 ≤ x)
    (env := V_stand2 r1 (.int m) (.int w) (.lst true [])) 0 m (fun k env h0 hk he => by
      obtain ⟨r1, l, a, b, rfl, hr1, hl, hq⟩ := he
      obtain ⟨q, r2, e2, hr2, hz, hp⟩ := amount2_draw hr1
      obtain ⟨x, r3, e3, hr3, x0, x1⟩ := take2_spec hr2 (n := 4) (by decide) (by decide)
      have hz' : l.length < 100000 := by omega
      have a0 : L2.atI [D.tup [.int 0, .int 1], fr q] 0 = some (fr 0) := rfl
      have a1 : L2.atI [D.tup [.int 0, .int 1], fr q] 1 = some (fr q) := rfl
      by_cases hx : x < w
      · refine ⟨_, V_stand2 r3 (.int m) (.int w) (.lst true ((l ++ [q]).map fr)) (.int k) (fr q), rfl, .inl ?_, r3, _, .int k, fr q, rfl, hr3, by simp; omega, fun z hz2 => ?_⟩
        · simp [B_stand2_1, e2, hr1.nd, hr2.nd, hr3.nd, e3, isLst, hx, a1, hz', gInt]
        · rcases List.mem_append.mp hz2 with hz2 | hz2
          · exact hq z hz2
          · rw [List.mem_singleton.mp hz2]; exact ⟨hz, Rat.le_of_lt hp⟩
      · refine ⟨_, V_stand2 r3 (.int m) (.int w) (.lst true ((l ++ [0]).map fr)) (.int k) (fr q), rfl, .inl ?_, r3, _, .int k, fr q, rfl, hr3, by simp; omega, fun z hz2 => ?_⟩
        · simp [B_stand2_1, e2, hr1.nd, hr2.nd, hr3.nd, e3, isLst, hx, a0, hz', gInt]; rfl
        · rcases List.mem_append.mp hz2 with hz2 | hz2
          · exact hq z hz2
          · rw [List.mem_singleton.mp hz2]; exact ⟨zero_sz.mono (by decide), Rat.le_refl⟩) ⟨r1, [], .dead, .dead, rfl, hr1, rfl, by simp⟩
  have hl' : l.length = m := by omega
  have e2 := frs_frR l
  rw [hl'] at e2
  refine ⟨fun j => l.getD j 0, r2, ?_, hr2, fun j => ?_⟩
  · have hm1 : -1000000 ≤ (m : Int) := by omega
    have hm2 : (m : Int) ≤ 1000000 := by omega
    simp [m_stand2, b_stand2, e1, hr.nd, hm1, hm2, h1, e2, hr1.nd, hr2.nd]
  · dsimp only
    by_cases hj : j < l.length
    · rw [List.getD_eq_getElem?_getD, List.getElem?_eq_getElem hj, Option.getD_some]
      exact hq _ (List.getElem_mem hj)
    · rw [List.getD_eq_getElem?_getD, List.getElem?_eq_none (by omega), Option.getD_none]
      exact ⟨zero_sz.mono (by decide), Rat.le_refl⟩
theorem lcL_fnats {f : Tgt} {b : Tst} {m : Exp} {vs : List Nat} (I : Env → Prop) (ks : List Nat) (env : Env)
    (h : ∀ k ∈ ks, ∀ env, I env → ∃ e c e', f (.int (k : Nat)) env = some e ∧ b e = .ok (c, e') ∧ (c = false → I (wipeD e' vs)) ∧ (c = true → ∃ e2, m e' = .ok (.int (k : Nat), e2) ∧ I (wipeD e2 vs))) (h0 : I env) :
    ∃ (s : List Nat) (env' : Env), lcL f b m vs (natsL ks) env = some (natsL s, env') ∧ I env' ∧ s.Sublist ks := by
  obtain ⟨s, env', h1, h2, h3, _⟩ := lcL_fdraw (f := f) (b := b) (m := m) (vs := vs) (fun k (_ : Unit) => .int (k : Nat)) (fun _ _ => True) I ks env (fun k hk env hI => by
    obtain ⟨e, c, e', q1, q2, q3, q4⟩ := h k hk env hI
    exact ⟨e, c, e', q1, q2, q3, fun hc => by obtain ⟨e2, q5, q6⟩ := q4 hc; exact ⟨(), e2, q5, q6, trivial⟩⟩) h0
  refine ⟨s.map (·.1), env', ?_, h2, h3⟩
  show lcL f b m vs (ks.map _) env = _
  rw [h1]
  simp [natsL]
theorem some_draw {r : D} {n : Nat} (hr : RoomOk r) (hn : n ≤ 1000) : ∃ (ks : List Nat) (r' : D), m__law_some [r, .int n] = .ok (.lst true (natsL ks), r') ∧ RoomOk r' ∧ ks.Sublist (List.range n) := by
  obtain ⟨w, r1, e1, hr1, w0, w1⟩ := take2_spec hr (n := 3) (by decide) (by decide)
  have hm1 : -1000000 ≤ (n : Int) ∧ (n : Int) ≤ 1000000 := by omega
  by_cases hw : w = 0
  · subst hw
    exact ⟨List.range n, r1, by simp [m__law_some, b__law_some, e1, hr.nd, hr1.nd, hm1, range_nats], hr1, List.Sublist.refl _⟩
  · have hw' : (w == 0) = false := by simpa using hw
    obtain ⟨s, env', h1, h2, h3⟩ := lcL_fnats (f := gN 3) (b := bOf (eBin fLt (eCallX m_take2 0 (aC (eC (.int 3)) (aN))) (eV 2))) (m := eV 3) (vs := [3]) (fun env => ∃ r, env = V__law_some r (.int n) (.int w) ∧ RoomOk r) (List.range n) (V__law_some r1 (.int n) (.int w)) (fun k hk env ⟨r, he, hr⟩ => by
      subst he
      obtain ⟨x, r2, e2, hr2, x0, x1⟩ := take2_spec hr (n := 3) (by decide) (by decide)
      exact ⟨_, decide (x < w), V__law_some r2 (.int n) (.int w) (.int k), rfl, by simp [e2, hr.nd], fun _ => ⟨r2, rfl, hr2⟩, fun _ => ⟨V__law_some r2 (.int n) (.int w) (.int k), by simp, ⟨r2, rfl, hr2⟩⟩⟩) ⟨r1, rfl, hr1⟩
    obtain ⟨r2, rfl, hr2⟩ := h2
    change C__law_some_1 _ _ = _ at h1
    have hl : (natsL (List.range n)).length ≤ 100000 := by simp; omega
    rw [← range_nats] at h1 hl
    exact ⟨s, r2, by simp [m__law_some, b__law_some, e1, hw', hr.nd, hr1.nd, hr2.nd, hm1, hl, h1], hr2, h3⟩
theorem Nums.of_sub {ks : List Nat} {n : Nat} (h : ks.Sublist (List.range n)) (hn : n ≤ 1000) : Nums n ks :=
  ⟨fun k hk => List.mem_range.mp (h.subset hk), by have := h.length_le; rw [List.length_range] at this; omega⟩
end Fl

/-! Fl: can_be. -/
namespace Fl
open PySem
theorem enum_frR (m : Nat) (f : Nat → Rat) : enumD (frR m f) = (List.range m).map fun j => .tup [.int (j : Nat), fr (f j)] := by
  apply List.ext_getElem?
  intro i
  unfold enumD
  rw [List.getElem?_mapIdx]
  by_cases h : i < m
  · rw [frR_get h]; simp [h]
  · rw [List.getElem?_eq_none (by simpa using h), List.getElem?_eq_none (by simpa using h)]; rfl
theorem wet_in_spec {m : Nat} {f : Nat → Rat} {o : Bool} (hm : m ≤ 1000) : m_wet_in [.lst o (frR m f)] = .ok (.lst true (natsL (wet0 m f)), .dead) := by
  have lc : ∀ b, C_wet_in_1 ((List.range m).map fun j => .tup [.int (j : Nat), fr (f j)]) (V_wet_in (.lst b (frR m f))) = some (natsL (wet0 m f), V_wet_in (.lst b (frR m f))) := fun b =>
    lcL_filter (List.range m) (fun j => .tup [.int (j : Nat), fr (f j)]) (fun j => .int (j : Nat)) (fun p => decide (0 < (f p).num)) fun k hk =>
      ⟨V_wet_in (.lst b (frR m f)) (.int k) (fr (f k)), V_wet_in (.lst b (frR m f)) (.int k) (fr (f k)), by simp, by simp, fun _ => rfl, fun _ => ⟨V_wet_in (.lst b (frR m f)) (.int k) (fr (f k)), by simp, rfl⟩⟩
  rw [← enum_frR] at lc
  have hl : (enumD (frR m f)).length ≤ 100000 := by rw [enum_frR]; simp; omega
  cases o <;> simp [m_wet_in, b_wet_in, lc, hl]
/-! ### rounds -/
theorem wst_le (ds : List Deed) (s : List Nat × List Nat) (k : Nat) : s.2.length ≤ (wst ds s k).2.length ∧ ((wst ds s k).2.length = s.2.length → wst ds s k = s) := by
  unfold wst
  split
  · simp
  · exact ⟨Nat.le_refl _, fun _ => rfl⟩
theorem wrd_le (ds : List Deed) : ∀ (l : List Nat) (s : List Nat × List Nat), s.2.length ≤ (wrd ds l s).2.length ∧ ((wrd ds l s).2.length = s.2.length → wrd ds l s = s)
  | [], s => ⟨Nat.le_refl _, fun _ => rfl⟩
  | k :: l, s => by
    have h1 := wst_le ds s k
    have h2 := wrd_le ds l (wst ds s k)
    refine ⟨Nat.le_trans h1.1 h2.1, fun h => ?_⟩
    have h3 : (wrd ds l (wst ds s k)).2.length = s.2.length := h
    have h4 : wst ds s k = s := h1.2 (by omega)
    show wrd ds l (wst ds s k) = s
    rw [h4] at h3 ⊢
    have := (wrd_le ds l s).2 h3
    exact this
theorem wit_fix {ds : List Deed} {ks : List Nat} {s : List Nat × List Nat} (h : wrd ds ks s = s) : ∀ n, wit ds ks n s = s
  | 0 => rfl
  | n + 1 => by
    show wit ds ks n (wrd ds ks s) = s
    rw [h]
    exact wit_fix h n
theorem wit_stop {m : Nat} {ds : List Deed} {ks : List Nat} (hN : NetOk m ds) : ∀ (n : Nat) {s : List Nat × List Nat}, WInv m ks s → ks.length ≤ s.2.length + n → wrd ds ks (wit ds ks n s) = wit ds ks n s
  | 0, s, h, hn => by
    have h1 := wrd_le ds ks s
    have h2 := (h.rd (ds := ds) (l := ks) hN fun _ h => h).len2
    exact h1.2 (by omega)
  | n + 1, s, h, hn => by
    by_cases e : (wrd ds ks s).2.length = s.2.length
    · have := (wrd_le ds ks s).2 e
      rw [wit_fix this]
      exact this
    · have h1 := wrd_le ds ks s
      exact wit_stop hN n (s := wrd ds ks s) (h.rd hN fun _ h => h) (by omega)
theorem in_turn_spec {m : Nat} {ds : List Deed} {f : Nat → Rat} {ks : List Nat} {o : Bool} (hN : NetOk m ds) (hl : ∀ d ∈ ds, d.1.length ≤ 1000 ∧ d.2.length ≤ 1000) (hk : Nums ds.length ks) :
    m_in_turn [netD false m ds, .lst o (frR m f), .lst false (natsL ks)] = .ok (.tup [.lst true (natsL (wit ds ks ks.length (wet0 m f, [])).2), .lst true (natsL (wit ds ks ks.length (wet0 m f, [])).1)], .dead) := by
  have hm := hN.mm
  have hdd : ∀ k < ds.length, (dd ds k).1.length ≤ 1000 ∧ (dd ds k).2.length ≤ 1000 := fun k h => by
    unfold dd
    rw [List.getD_eq_getElem?_getD, List.getElem?_eq_getElem h]; exact hl _ (List.getElem_mem h)
  have one : ∀ (s : List Nat × List Nat) (b : Bool) (p : D) (k : Nat), WInv m ks s → k ∈ ks →
      B_in_turn_3 (V_in_turn (netD false m ds) (.lst o (frR m f)) (.lst false (natsL ks)) (.lst true (natsL s.1)) (.lst true (natsL s.2)) (.bl b) (.int k) .dead) =
        .nx (V_in_turn (netD false m ds) (.lst o (frR m f)) (.lst false (natsL ks)) (.lst true (natsL (wst ds s k).1)) (.lst true (natsL (wst ds s k).2)) (.bl (b || decide ((wst ds s k).2.length ≠ s.2.length))) (.int k) .dead) := fun s b p k hs hkk => by
    have h1 := hk.lt k hkk
    have z := hdd k h1
    have e1 := takes_spec (m := m) h1 z.1
    have e2 := gives_spec (m := m) h1 z.2
    have zl := hs.len
    have zl2 := hs.len2
    have kn := hk.n
    have z1 : (tks (dd ds k)).length ≤ 100000 := by simp [tks]; omega
    have z2 : (gvs (dd ds k)).length ≤ 100000 := by simp [gvs]; omega
    have z3 : s.2.length < 100000 := by omega
    have lc1 : C_in_turn_1 (natsL (tks (dd ds k))) (V_in_turn (netD false m ds) (.lst o (frR m f)) (.lst false (natsL ks)) (.lst true (natsL s.1)) (.lst true (natsL s.2)) (.bl b) (.int k)) = some ((tks (dd ds k)).map (fun p => .bl (decide (p ∈ s.1))), V_in_turn (netD false m ds) (.lst o (frR m f)) (.lst false (natsL ks)) (.lst true (natsL s.1)) (.lst true (natsL s.2)) (.bl b) (.int k)) :=
      lcL_map (tks (dd ds k)) (fun k => .int (k : Nat)) _ fun p hp => ⟨_, V_in_turn (netD false m ds) (.lst o (frR m f)) (.lst false (natsL ks)) (.lst true (natsL s.1)) (.lst true (natsL s.2)) (.bl b) (.int k) (.int p), V_in_turn (netD false m ds) (.lst o (frR m f)) (.lst false (natsL ks)) (.lst true (natsL s.1)) (.lst true (natsL s.2)) (.bl b) (.int k) (.int p), rfl, rfl, by simp, rfl⟩
    have lc2 : ∀ a A, C_in_turn_2 (natsL (gvs (dd ds k))) (V_in_turn (netD false m ds) (.lst o (frR m f)) (.lst false (natsL ks)) (.lst a (natsL s.1)) A (.bl b) (.int k)) = some (natsL ((gvs (dd ds k)).filter fun p => !decide (p ∈ s.1)), V_in_turn (netD false m ds) (.lst o (frR m f)) (.lst false (natsL ks)) (.lst a (natsL s.1)) A (.bl b) (.int k)) := fun a A =>
      lcL_filter (gvs (dd ds k)) (fun k => .int (k : Nat)) (fun k => .int (k : Nat)) (fun p => !decide (p ∈ s.1)) fun p hp => ⟨_, V_in_turn (netD false m ds) (.lst o (frR m f)) (.lst false (natsL ks)) (.lst a (natsL s.1)) A (.bl b) (.int k) (.int p), rfl, by simp, fun _ => rfl, fun _ => ⟨V_in_turn (netD false m ds) (.lst o (frR m f)) (.lst false (natsL ks)) (.lst a (natsL s.1)) A (.bl b) (.int k) (.int p), by simp, rfl⟩⟩
    have hzz : ((gvs (dd ds k)).filter fun p => !decide (p ∈ s.1)).length ≤ 1000 := Nat.le_trans (List.length_filter_le _ _) (by simp [gvs]; exact z.2)
    have hz5 : s.1.length + ((gvs (dd ds k)).filter fun p => !decide (p ∈ s.1)).length ≤ 100000 := by omega
    have ga : ∀ o, gAll (.lst o ((tks (dd ds k)).map fun p => .bl (decide (p ∈ s.1)))) = some (.bl ((tks (dd ds k)).all fun p => decide (p ∈ s.1))) := fun o => gAll_bls _ _
    by_cases ha : k ∈ s.2
    · have hw : wst ds s k = s := if_neg fun h => h.1 ha
      rw [hw]
      simp [B_in_turn_3, ha]
    · cases hx : (tks (dd ds k)).all fun p => decide (p ∈ s.1) with
      | false =>
        have hw : wst ds s k = s := if_neg fun h => by
          have : (tks (dd ds k)).all (fun p => decide (p ∈ s.1)) = true := List.all_eq_true.mpr fun p hp => decide_eq_true (h.2 p hp)
          rw [hx] at this; cases this
        rw [hw]
        rw [hx] at ga
        have sb : ∀ o, shI (.lst o ((tks (dd ds k)).map fun p => D.bl (decide (p ∈ s.1)))) = .lst o ((tks (dd ds k)).map fun p => D.bl (decide (p ∈ s.1))) := fun o => by
          have := shL_map (g := fun p => D.bl (decide (p ∈ s.1))) (fun _ => rfl) (tks (dd ds k))
          simp [this]
        simp [B_in_turn_3, e1, ha, lc1, z1, ga, sb]
      | true =>
        have hw : wst ds s k = (s.1 ++ (gvs (dd ds k)).filter fun p => !decide (p ∈ s.1), s.2 ++ [k]) := if_pos ⟨ha, fun p hp => of_decide_eq_true (List.all_eq_true.mp hx p hp)⟩
        rw [hw]
        rw [hx] at ga
        have sb : ∀ o, shI (.lst o ((tks (dd ds k)).map fun p => D.bl (decide (p ∈ s.1)))) = .lst o ((tks (dd ds k)).map fun p => D.bl (decide (p ∈ s.1))) := fun o => by
          have := shL_map (g := fun p => D.bl (decide (p ∈ s.1))) (fun _ => rfl) (tks (dd ds k))
          simp [this]
        simp [B_in_turn_3, e1, e2, ha, lc1, lc2, z1, z2, z3, ga, sb, hz5, isLst, natsL_cons, natsL_nil]
  have rnd : ∀ (l : List Nat) (s : List Nat × List Nat) (b : Bool) (p : D), (∀ k ∈ l, k ∈ ks) → WInv m ks s → ∃ p' : D,
      forL T_in_turn_3 B_in_turn_3 (natsL l) (V_in_turn (netD false m ds) (.lst o (frR m f)) (.lst false (natsL ks)) (.lst true (natsL s.1)) (.lst true (natsL s.2)) (.bl b) p .dead) =
        .nx (V_in_turn (netD false m ds) (.lst o (frR m f)) (.lst false (natsL ks)) (.lst true (natsL (wrd ds l s).1)) (.lst true (natsL (wrd ds l s).2)) (.bl (b || decide ((wrd ds l s).2.length ≠ s.2.length))) p' .dead) := fun l => by
    induction l with
    | nil => intro s b p _ _; exact ⟨p, by simp [natsL, forL, wrd]⟩
    | cons k l ih =>
      intro s b p hl' hs
      have h1 := one s b p k hs (hl' k (by simp))
      obtain ⟨p', h2⟩ := ih (wst ds s k) (b || decide ((wst ds s k).2.length ≠ s.2.length)) (.int k) (fun x hx => hl' x (List.mem_cons_of_mem _ hx)) (hs.st hN (hl' k (by simp)))
      refine ⟨p', ?_⟩
      rw [natsL_cons]
      refine (forL_step (by rfl) h1).trans (h2.trans ?_)
      have q1 := (wst_le ds s k).1
      have q2 := (wrd_le ds l (wst ds s k)).1
      have e : (b || decide ((wst ds s k).2.length ≠ s.2.length) || decide ((wrd ds l (wst ds s k)).2.length ≠ (wst ds s k).2.length)) = (b || decide ((wrd ds (k :: l) s).2.length ≠ s.2.length)) := by
        have e0 : wrd ds (k :: l) s = wrd ds l (wst ds s k) := rfl
        rw [e0, Bool.or_assoc]
        congr 1
        rw [Bool.eq_iff_iff]
        simp
        omega
      rw [e]
      rfl
  have lp : ∀ (n : Nat) (s : List Nat × List Nat) (p : D), WInv m ks s → ks.length ≤ s.2.length + n → ∃ (c : Nat) (p' : D),
      whileN W_in_turn_4 B_in_turn_4 c (V_in_turn (netD false m ds) (.lst o (frR m f)) (.lst false (natsL ks)) (.lst true (natsL s.1)) (.lst true (natsL s.2)) (.bl true) p .dead) =
        .nx (V_in_turn (netD false m ds) (.lst o (frR m f)) (.lst false (natsL ks)) (.lst true (natsL (wit ds ks n s).1)) (.lst true (natsL (wit ds ks n s).2)) (.bl false) p' .dead) := fun n => by
    have turn : ∀ (s : List Nat × List Nat) (p : D), WInv m ks s → ∃ p' : D, B_in_turn_4 (V_in_turn (netD false m ds) (.lst o (frR m f)) (.lst false (natsL ks)) (.lst true (natsL s.1)) (.lst true (natsL s.2)) (.bl true) p .dead) = .nx (V_in_turn (netD false m ds) (.lst o (frR m f)) (.lst false (natsL ks)) (.lst true (natsL (wrd ds ks s).1)) (.lst true (natsL (wrd ds ks s).2)) (.bl (decide ((wrd ds ks s).2.length ≠ s.2.length))) p' .dead) := fun s p hs => by
      obtain ⟨p', h1⟩ := rnd ks s false p (fun _ h => h) hs
      refine ⟨p', ?_⟩
      rw [Bool.false_or] at h1
      rw [← h1]
      simp [B_in_turn_4]
    have stop : ∀ (s : List Nat × List Nat) (p : D), WInv m ks s → (wrd ds ks s).2.length = s.2.length → ∃ (c : Nat) (p' : D), whileN W_in_turn_4 B_in_turn_4 c (V_in_turn (netD false m ds) (.lst o (frR m f)) (.lst false (natsL ks)) (.lst true (natsL s.1)) (.lst true (natsL s.2)) (.bl true) p .dead) =
        .nx (V_in_turn (netD false m ds) (.lst o (frR m f)) (.lst false (natsL ks)) (.lst true (natsL s.1)) (.lst true (natsL s.2)) (.bl false) p' .dead) := fun s p hs e => by
      obtain ⟨p', h1⟩ := turn s p hs
      have e2 := (wrd_le ds ks s).2 e
      rw [e2] at h1
      refine ⟨2, p', ?_⟩
      have d1 : decide (s.2.length ≠ s.2.length) = false := by simp
      rw [d1] at h1
      simp [whileN, W_in_turn_4, h1]
    induction n with
    | zero =>
      intro s p hs hn
      have h1 := wrd_le ds ks s
      have h2 := (hs.rd (ds := ds) (l := ks) hN fun _ h => h).len2
      exact stop s p hs (by omega)
    | succ n ih =>
      intro s p hs hn
      by_cases e : (wrd ds ks s).2.length = s.2.length
      · have e2 := (wrd_le ds ks s).2 e
        rw [wit_fix e2]
        exact stop s p hs e
      · obtain ⟨p1, h1⟩ := turn s p hs
        have q := wrd_le ds ks s
        obtain ⟨c, p2, h2⟩ := ih (wrd ds ks s) p1 (hs.rd hN fun _ h => h) (by omega)
        rw [decide_eq_true e] at h1
        refine ⟨c + 1, p2, ?_⟩
        have h3 : wit ds ks (n + 1) s = wit ds ks n (wrd ds ks s) := rfl
        rw [h3, ← h2]
        simp [whileN, W_in_turn_4, h1]
  obtain ⟨c, p', hw⟩ := lp ks.length (wet0 m f, []) .dead WInv.start (by simp)
  have hs := sWhile_eq hw (by simp)
  have e1 := wet_in_spec (f := f) (o := false) hm
  have e1' := wet_in_spec (f := f) (o := o) hm
  generalize wit ds ks ks.length (wet0 m f, []) = S at hs
  simp only [natsL_nil] at hs
  cases o <;> simp [m_in_turn, b_in_turn, e1, e1', hs]
theorem can_be_spec {m : Nat} {ds : List Deed} {f : Nat → Rat} {ks : List Nat} {o : Bool} (hN : NetOk m ds) (hl : ∀ d ∈ ds, d.1.length ≤ 1000 ∧ d.2.length ≤ 1000) (hk : Nums ds.length ks) :
    m_can_be [netD false m ds, .lst o (frR m f), .lst false (natsL ks)] = .ok (.tup [.lst true (natsL (wit ds ks ks.length (wet0 m f, [])).1.mergeSort), .lst true (natsL (wit ds ks ks.length (wet0 m f, [])).2.mergeSort)], .dead) := by
  have e1 := in_turn_spec (m := m) (f := f) (o := false) hN hl hk
  have e1' := in_turn_spec (m := m) (f := f) (o := o) hN hl hk
  generalize wit ds ks ks.length (wet0 m f, []) = S at e1 e1'
  cases o <;> simp [m_can_be, b_can_be, e1, e1']
end Fl

namespace L_flowtokens_k18_what_can_be_wet
open PySem PySem.Spec PyProof.Rows L2 Fl
def topS (i : Nat) : Stmt := PySem.Challenge.pw_flowtokens_k18_what_can_be_wet.main.body.getD i (.Pass ⟨0, 0, 0, 0⟩)
structure Bl (mg : Str → Option Value) : Prop where
  abs : mg "abs" = none
  all : mg "all" = none
  bool : mg "bool" = none
  dict : mg "dict" = none
  enumerate : mg "enumerate" = none
  int : mg "int" = none
  isinstance : mg "isinstance" = none
  len : mg "len" = none
  list : mg "list" = none
  max : mg "max" = none
  min : mg "min" = none
  range : mg "range" = none
  reversed : mg "reversed" = none
  sorted : mg "sorted" = none
  tuple : mg "tuple" = none
structure Cs (K : PySem.W.Frag) (mg : Str → Option Value) : Prop where
  tt : True
noncomputable def C__law_numbers_1 : List D → Fl.Env → Option (List D × Fl.Env) := lcL (gN 1) (bOr (bNot (bOf (eIsiV "int" 1))) (bOf (eIsiV "bool" 1))) (eV 1) [1]
noncomputable def b__law_numbers : Stm :=
  sSeq (sIf (bNot (bOf (eIsiV "list" 0))) (sRet (eC (.bl false))) (sPass))
  (sRet (eBin fEq (eLcF 2 (iL (eV 0)) C__law_numbers_1 [1]) (eLst (aN))))
noncomputable def m__law_numbers : Fn := fnM 1 2 false b__law_numbers
abbrev V__law_numbers (_law_found _law_one : D := .dead) : Fl.Env := [_law_found, _law_one]

noncomputable def C__law_chain_1 : List D → Fl.Env → Option (List D × Fl.Env) := lcL (gN 4) (bYes) (eCallX m_amount2 0 (aN)) [4]
noncomputable def C__law_chain_2 : List D → Fl.Env → Option (List D × Fl.Env) := lcL (gN 4) (bYes) (eTup (aC (eLst (aC (eTup (aC (eV 4) (aC (eIxV 1 (eV 4)) (aN)))) (aN))) (aC (eLst (aC (eTup (aC (eBin addD (eV 4) (eC (.int 1))) (aC (eIxV 1 (eBin addD (eV 4) (eC (.int 1)))) (aN)))) (aN))) (aN)))) [4]
noncomputable def C__law_chain_3 : List D → Fl.Env → Option (List D × Fl.Env) := lcL (gN 4) (bYes) (eTup (aC (eLst (aC (eTup (aC (eBin addD (eV 4) (eC (.int 1))) (aC (eTup (aC (eC (.int 1)) (aC (eC (.int 1)) (aN)))) (aN)))) (aN))) (aC (eLst (aC (eTup (aC (eV 4) (aC (eIxV 1 (eV 4)) (aN)))) (aN))) (aN)))) [4]
noncomputable def C__law_chain_4 : List D → Fl.Env → Option (List D × Fl.Env) := lcL (gN 4) (bYes) (eTup (aC (eLst (aC (eTup (aC (eV 4) (aC (eTup (aC (eC (.int 1)) (aC (eC (.int 1)) (aN)))) (aN)))) (aN))) (aC (eLst (aN)) (aN)))) [4]
noncomputable def b__law_chain : Stm :=
  sSeq (sAsg (eLcF 5 (iR1 (aC (eC (.int 12)) (aN))) C__law_chain_1 [4]) (gN 1))
  (sSeq (sAsg (eLcF 5 (iRvR (aC (eC (.int 11)) aN)) C__law_chain_2 [4]) (gN 2))
  (sSeq (sAsg (eLcF 5 (iRvR (aC (eC (.int 11)) aN)) C__law_chain_3 [4]) (gN 3))
  (sRet (eTup (aC (eC (.int 12)) (aC (eBin addD (eBin addD (eV 2) (eV 3)) (eLcF 5 (iR1 (aC (eC (.int 12)) (aN))) C__law_chain_4 [4])) (aN)))))))
noncomputable def m__law_chain : Fn := fnM 1 5 true b__law_chain
abbrev V__law_chain (_law_pool_here _law_amounts _law_deeds _law_back _law_k : D := .dead) : Fl.Env := [_law_pool_here, _law_amounts, _law_deeds, _law_back, _law_k]

noncomputable def b__law_right : Stm :=
  sSeq (sAsg (eCallB m_can_be [.v 0, .v 1, .v 2] (aC (eV 0) (aC (eV 1) (aC (eV 2) (aN))))) (gN 3))
  (sSeq (sBor [3] [0, 1, 2, 3] (sIf (bOr (bNot (bOf (eIsiV "tuple" 3))) (bOr (bOf (eBin fNe (eBV gLen 3) (eC (.int 2)))) (bOr (bNot (bOf (eCall m__law_numbers (aC (eIxV 3 (eC (.int 0))) (aN))))) (bNot (bOf (eCall m__law_numbers (aC (eIxV 3 (eC (.int 1))) (aN)))))))) (sRet (eC (.bl false))) (sPass)))
  (sSeq (sIf (bOf (eBinL fNe 3 (eCallB m__law_can_be [.v 0, .v 1, .v 2] (aC (eV 0) (aC (eV 1) (aC (eV 2) (aN))))))) (sRet (eC (.bl false))) (sPass))
  (sSeq (sExpr (eMutP 3 [.ix 0] fAppend (aC (eC (.int 0)) (aN))))
  (sSeq (sExpr (eMutP 3 [.ix 1] fAppend (aC (eC (.int 0)) (aN))))
  (sRet (eC (.bl true)))))))
noncomputable def m__law_right : Fn := fnM 3 4 false b__law_right
abbrev V__law_right (_law_net_here _law_stand_here _law_deeds _law_found : D := .dead) : Fl.Env := [_law_net_here, _law_stand_here, _law_deeds, _law_found]

noncomputable def C_law_1 : List D → Fl.Env → Option (List D × Fl.Env) := lcL (gN 12) (bYes) (eTup (aC (eB gInt (aC (eBinV fEq (eV 12) 3) aN)) (aC (eC (.int 1)) (aN)))) [12]
noncomputable def T_law_2 : Tgt := gN 5
noncomputable def B_law_2 : Stm := sIf (bNot (bOf (eCallB m__law_right [.v 2, .v 4, .v 5] (aC (eV 2) (aC (eV 4) (aC (eV 5) (aN))))))) (sRet (eC (.bl false))) (sPass)
noncomputable def T_law_3 : Tgt := gN 3
noncomputable def B_law_3 : Stm := sSeq (sAsg (eLcF 14 (iR1 (aC (eC (.int 12)) (aN))) C_law_1 [12]) (gN 4))
  (sFor (iL (eLst (aC (eB gLR1 (aC (eC (.int 11)) (aN))) (aC (eB gLR1 (aC (eC (.int 34)) (aN))) (aC (eB gLR2 (aC (eC (.int 11)) (aC (eC (.int 34)) (aN)))) (aN)))))) (T_law_2)
  (B_law_2))
noncomputable def C_law_4 : List D → Fl.Env → Option (List D × Fl.Env) := lcL (gN 13) (bYes) (eTup (aC (eG1 gList (eIxV 13 (eC (.int 1)))) (aC (eG1 gList (eIxV 13 (eC (.int 0)))) (aN)))) [13]
noncomputable def T_law_5 : Tgt := gN 11
noncomputable def B_law_5 : Stm := sIf (bNot (bOf (eCallB m__law_right [.v 11, .e (eIxV 10 (eC (.int 1))), .e (eIxV 10 (eC (.int 2)))] (aC (eV 11) (aC (eIxV 10 (eC (.int 1))) (aC (eIxV 10 (eC (.int 2))) (aN))))))) (sRet (eC (.bl false))) (sPass)
noncomputable def T_law_6 : Tgt := gN 8
noncomputable def B_law_6 : Stm := sSeq (sAsg (eCallB m__law_pool [.v 0, .v 8] (aC (eV 0) (aC (eV 8) (aN)))) (gN 9))
  (sSeq (sAsg (eCallX m_stand2 9 (aC (eIxV 1 (eC (.int 0))) (aN))) (gN 4))
  (sSeq (sAsg (eCallX m__law_some 9 (aC (eB gLen (aC (eIxV 1 (eC (.int 1))) aN)) (aN))) (gN 5))
  (sSeq (sAsg (eLst (aC (eCallB m_copy2 [.v 1] (aC (eV 1) (aN))) (aC (eG1V gList 4) (aC (eG1V gList 5) (aN))))) (gN 10))
  (sSeq (sIf (bOf (eBinL fEq 6 (eC (.int 1)))) (sSetP 10 [.ix 0, .ix 1] (.ix (-1)) (eP 10 [.ix 0, .ix 1, .ix 0])) (sPass))
  (sSeq (sBor [7, 10] [0, 1, 2, 3, 4, 5, 6, 7, 8, 9, 10, 12, 13] (sFor (iL (eLst (aC (eIxV 10 (eC (.int 0))) (aC (eV 7) (aC (eIxV 10 (eC (.int 0))) (aN)))))) (T_law_5)
  (B_law_5)))
  (sSeq (sIf (bOf (eBinL fNe 10 (eLst (aC (eV 1) (aC (eV 4) (aC (eV 5) (aN))))))) (sRet (eC (.bl false))) (sPass))
  (sSeq (sExpr (eMutP 10 [.ix 0, .ix 1] fAppend (aC (eTup (aC (eLst (aN)) (aC (eLst (aC (eTup (aC (eBin fSub (eIxV 1 (eC (.int 0))) (eC (.int 1))) (aC (eTup (aC (eC (.int 1)) (aC (eC (.int 2)) (aN)))) (aN)))) (aN))) (aN)))) (aN))))
  (sSeq (sExpr (eMutP 10 [.ix 2] fAppend (aC (eB gLen (aC (eIxV 1 (eC (.int 1))) aN)) (aN))))
  (sIf (bNot (bOf (eCall m__law_right (aC (eIxV 10 (eC (.int 0))) (aC (eIxV 10 (eC (.int 1))) (aC (eIxV 10 (eC (.int 2))) (aN))))))) (sRet (eC (.bl false))) (sPass))))))))))
noncomputable def b_law : Stm :=
  sSeq (sAsg (eCallB m_net2 [.v 0, .e (eC (.int 0)), .e (eC (.int 8))] (aC (eV 0) (aC (eC (.int 0)) (aC (eC (.int 8)) (aN))))) (gN 1))
  (sSeq (sAsg (eCall m__law_chain (aC (eCallB m__law_pool [.v 0, .e (eC (.int 11))] (aC (eV 0) (aC (eC (.int 11)) (aN)))) (aN))) (gN 2))
  (sSeq (sFor (iL (eLst (aC (eCall m_take2 (aC (eCallB m__law_pool [.v 0, .e (eC (.int 12))] (aC (eV 0) (aC (eC (.int 12)) (aN)))) (aC (eC (.int 12)) (aN)))) (aC (eC (.int 0)) (aN))))) (T_law_3)
  (B_law_3))
  (sSeq (sAsg (eB gInt (aC (eAnd (eBin fNe (eIxV 1 (eC (.int 1))) (eLst (aN))) (eBin fEq (eCall m_take2 (aC (eCallB m__law_pool [.v 0, .e (eC (.int 13))] (aC (eV 0) (aC (eC (.int 13)) (aN)))) (aC (eC (.int 4)) (aN)))) (eC (.int 0)))) aN)) (gN 6))
  (sSeq (sAsg (eTup (aC (eIxV 1 (eC (.int 0))) (aC (eBin addD (eIxV 1 (eC (.int 1))) (eSl (eIxV 1 (eC (.int 1))) oN (oS (eV 6)))) (aN)))) (gN 1))
  (sSeq (sAsg (eTup (aC (eIxV 1 (eC (.int 0))) (aC (eLcF 14 (iL (eIxV 1 (eC (.int 1)))) C_law_4 [13]) (aN)))) (gN 7))
  (sSeq (sFor (iR2 (aC (eC (.int 11)) (aC (eB gMax (aC (eC (.int 13)) (aC (eB gMin (aC (eBV gLen 0) (aC (eC (.int 63)) aN))) aN))) (aN)))) (T_law_6)
  (B_law_6))
  (sRet (eC (.bl true)))))))))
noncomputable def m_law : Fn := fnM 1 14 false b_law
abbrev V_law (_law_script _law_net_here _law_wide _law_start _law_stand_here _law_deeds _law_twice _law_around _law_k _law_pool_here _law_handed _law_some_here _law_place _law_deed_here : D := .dead) : Fl.Env := [_law_script, _law_net_here, _law_wide, _law_start, _law_stand_here, _law_deeds, _law_twice, _law_around, _law_k, _law_pool_here, _law_handed, _law_some_here, _law_place, _law_deed_here]

theorem nats_nil {a b : Bool} (l : List Nat) : fEq (.lst a (natsL l)) (.lst b []) = some (.bl l.isEmpty) ∧ fNe (.lst a (natsL l)) (.lst b []) = some (.bl (!l.isEmpty)) := by
  have := fEq_nilL (a := a) (b := b) (xs := natsL l) (n := 1) (plL_map _ fun _ _ => rfl) (by decide)
  have e : (natsL l).isEmpty = l.isEmpty := by cases l <;> rfl
  rwa [e] at this
theorem numbers_spec {o : Bool} {l : List Nat} (h : l.length ≤ 100000) : m__law_numbers [.lst o (natsL l)] = .ok (.bl true, .dead) := by
  have lc : ∀ b, C__law_numbers_1 (natsL l) (V__law_numbers (.lst b (natsL l))) = some ([], V__law_numbers (.lst b (natsL l))) := fun b =>
    lcL_none l (fun k => .int (k : Nat)) fun k hk => ⟨_, V__law_numbers (.lst b (natsL l)) (.int k), rfl, by simp [instOf], rfl⟩
  cases o <;> simp [m__law_numbers, b__law_numbers, instOf, lc, h, fEq_nil]
theorem two_eq (a b c d e g : Bool) (W A : List Nat) : fNe (.tup [.lst a (natsL W), .lst b (natsL A)]) (.tup [.lst c (natsL W), .lst d (natsL A)]) = some (.bl false) := by
  refine (fEq_same (n := 4) ?_ (by decide) ?_).2
  · simp only [pl, plL, Bool.and_true, Bool.and_eq_true]
    exact ⟨plL_map _ fun _ _ => rfl, plL_map _ fun _ _ => rfl⟩
  · simp [toPy, toPyL]
theorem right_spec {m : Nat} {ds : List Deed} {f : Nat → Rat} {ks : List Nat} {o : Bool} (hN : NetOk m ds) (hl : ∀ d ∈ ds, d.1.length ≤ 1000 ∧ d.2.length ≤ 1000) (hk : Nums ds.length ks) :
    m__law_right [netD false m ds, .lst o (frR m f), .lst false (natsL ks)] = .ok (.bl true, .dead) := by
  have e1 := can_be_spec (m := m) (f := f) (o := false) hN hl hk
  have e1' := can_be_spec (m := m) (f := f) (o := o) hN hl hk
  have e2 := law_can_be_spec (m := m) (f := f) (o := false) hN hl hk
  have e2' := law_can_be_spec (m := m) (f := f) (o := o) hN hl hk
  have hi : WInv m ks (wit ds ks ks.length (wet0 m f, [])) := WInv.it hN ks.length WInv.start
  have h1 := hi.len
  have h2 := hi.len2
  have hm := hN.mm
  have hkn := hk.n
  generalize wit ds ks ks.length (wet0 m f, []) = S at e1 e1' e2 e2' h1 h2
  have w1 : S.1.mergeSort.length ≤ 1000 := by rw [(List.mergeSort_perm S.1 _).length_eq]; omega
  have w2 : S.2.mergeSort.length ≤ 1000 := by rw [(List.mergeSort_perm S.2 _).length_eq]; omega
  generalize S.1.mergeSort = W at e1 e1' e2 e2' w1
  generalize S.2.mergeSort = A at e1 e1' e2 e2' w2
  have n1 := fun o => numbers_spec (o := o) (l := W) (by omega)
  have n2 := fun o => numbers_spec (o := o) (l := A) (by omega)
  have z1 : W.length < 100000 := by omega
  have z2 : A.length < 100000 := by omega
  have te := fun a b c d => two_eq a b c d true true W A
  cases o <;> simp [m__law_right, b__law_right, e1, e1', e2, e2', n1, n2, instOf, te, z1, z2, backF, ixN0, L2.ixN]
theorem shL_app (a b : List D) : shL (a ++ b) = shL a ++ shL b := by
  induction a with
  | nil => rfl
  | cons x a ih => simp [ih]
def chainL (q : Nat → Rat) : List Deed :=
  ((List.range 11).reverse.map fun k => ([(k, q k)], [(k + 1, q (k + 1))])) ++ ((List.range 11).reverse.map fun k => ([(k + 1, 1)], [(k, q k)])) ++ ((List.range 12).map fun k => ([(k, 1)], []))
theorem one_sz : Sz 1 2 := ⟨by decide, by decide⟩
theorem chain_ok {q : Nat → Rat} (hq : ∀ j, j < 12 → Sz (q j) 40 ∧ 0 < q j) : NetOk 12 (chainL q) ∧ (chainL q).length = 34 ∧ ∀ d ∈ chainL q, d.1.length ≤ 1000 ∧ d.2.length ≤ 1000 := by
  have hl : (chainL q).length = 34 := by simp [chainL]
  have h1 : ∀ j, j < 12 → SideOk 12 [(j, (1 : Rat))] := fun j hj => cons_side hj (one_sz.mono (by decide)) (by decide)
  have h2 : ∀ j, j < 12 → SideOk 12 [(j, q j)] := fun j hj => cons_side hj (hq j hj).1 (hq j hj).2
  have h0 : SideOk 12 [] := ⟨.nil, fun _ h => by simp at h, fun _ h => by simp at h, fun _ h => by simp at h⟩
  have all : ∀ d ∈ chainL q, DeedOk 12 d ∧ d.1.length ≤ 1000 ∧ d.2.length ≤ 1000 := fun d hd => by
    unfold chainL at hd
    rcases List.mem_append.mp hd with hd | hd
    · rcases List.mem_append.mp hd with hd | hd
      · obtain ⟨k, hk, rfl⟩ := List.mem_map.mp hd
        have : k < 11 := by simpa using hk
        exact ⟨⟨h2 k (by omega), h2 (k + 1) (by omega)⟩, by simp, by simp⟩
      · obtain ⟨k, hk, rfl⟩ := List.mem_map.mp hd
        have : k < 11 := by simpa using hk
        exact ⟨⟨h1 (k + 1) (by omega), h2 k (by omega)⟩, by simp, by simp⟩
    · obtain ⟨k, hk, rfl⟩ := List.mem_map.mp hd
      have : k < 12 := by simpa using hk
      exact ⟨⟨h1 k (by omega), h0⟩, by simp, by simp⟩
  exact ⟨⟨by decide, by omega, fun d hd => (all d hd).1⟩, hl, fun d hd => (all d hd).2⟩
theorem chain_draw {r : D} (hr : RoomOk r) : ∃ (q : Nat → Rat) (w r' : D), m__law_chain [r] = .ok (w, r') ∧ sh w = netD false 12 (chainL q) ∧ isDead w = false ∧ ∀ j, j < 12 → Sz (q j) 40 ∧ 0 < q j := by
  obtain ⟨rs, env', l1, ⟨r1, he, hr1⟩, l3, l4⟩ := lcL_draw (f := gN 4) (b := bYes) (m := eCallX m_amount2 0 (aN)) (vs := [4]) (fun env => ∃ r, env = V__law_chain r ∧ RoomOk r) (fun r => ∃ q, r = fr q ∧ (Sz q 40 ∧ 0 < q)) (rangeD 0 12) (V__law_chain r) (fun d hd env he => by
      obtain ⟨r1, rfl, hr1⟩ := he
      obtain ⟨q, r2, e2, hr2, z, p⟩ := amount2_draw hr1
      exact ⟨_, _, fr q, V__law_chain r2 .dead .dead .dead d, rfl, rfl, by simp [e2, hr1.nd], ⟨r2, rfl, hr2⟩, q, rfl, z, p⟩) ⟨r, rfl, hr⟩
  subst he
  change C__law_chain_1 _ _ = _ at l1
  obtain ⟨qs, k1, k2, k3⟩ := all_typed (enc := fr) l4
  rw [rangeD_len] at l3
  have hf := frs_frR qs
  rw [k2, l3] at hf
  have hq : ∀ j, j < 12 → Sz (qs.getD j 0) 40 ∧ 0 < qs.getD j 0 := fun j hj => by
    rw [List.getD_eq_getElem?_getD, List.getElem?_eq_getElem (by omega), Option.getD_some]
    exact k3 _ (List.getElem_mem _)
  rw [k1, hf] at l1
  generalize hQ : (fun j => qs.getD j 0) = q at l1 hf
  have hq' : ∀ j, j < 12 → Sz (q j) 40 ∧ 0 < q j := fun j hj => by rw [← hQ]; exact hq j hj
  have at1 : ∀ k : Nat, k < 11 → L2.atI (frR 12 q) ((k : Int) + 1) = some (fr (q (k + 1))) := fun k hk => frR_at (m := 12) (j := k + 1) (by omega)
  have at0 : ∀ k : Nat, k < 11 → L2.atI (frR 12 q) (k : Int) = some (fr (q k)) := fun k hk => frR_at (by omega)
  have rv : (rangeD 0 11).reverse = (List.range 11).reverse.map fun (k : Nat) => .int (k : Int) := by rw [rangeD0, List.map_reverse]
  have c2 : ∀ b c, C__law_chain_2 (rangeD 0 11).reverse (V__law_chain r1 (.lst true (frR 12 q)) b c) = some (deedsL true ((List.range 11).reverse.map fun k => ([(k, q k)], [(k + 1, q (k + 1))])), V__law_chain r1 (.lst true (frR 12 q)) b c) := fun b c => by
    have := lcL_map (f := gN 4) (b := bYes) (m := (eTup (aC (eLst (aC (eTup (aC (eV 4) (aC (eIxV 1 (eV 4)) (aN)))) (aN))) (aC (eLst (aC (eTup (aC (eBin addD (eV 4) (eC (.int 1))) (aC (eIxV 1 (eBin addD (eV 4) (eC (.int 1)))) (aN)))) (aN))) (aN))))) (vs := [4]) (env := V__law_chain r1 (.lst true (frR 12 q)) b c)
      (List.range 11).reverse (fun k => .int (k : Nat)) (fun k => deedD true ([(k, q k)], [(k + 1, q (k + 1))])) fun k hk => by
        have h1 : k < 11 := by simpa using hk
        exact ⟨_, V__law_chain r1 (.lst true (frR 12 q)) b c (.int k), V__law_chain r1 (.lst true (frR 12 q)) b c (.int k), rfl, rfl, by simp [at0 k h1, at1 k h1, deedD, sideL, row], rfl⟩
    rw [rv]
    exact this.trans (by simp [deedsL])
  have c3 : ∀ b c, C__law_chain_3 (rangeD 0 11).reverse (V__law_chain r1 (.lst true (frR 12 q)) b c) = some (deedsL true ((List.range 11).reverse.map fun k => ([(k + 1, 1)], [(k, q k)])), V__law_chain r1 (.lst true (frR 12 q)) b c) := fun b c => by
    have := lcL_map (f := gN 4) (b := bYes) (m := (eTup (aC (eLst (aC (eTup (aC (eBin addD (eV 4) (eC (.int 1))) (aC (eTup (aC (eC (.int 1)) (aC (eC (.int 1)) (aN)))) (aN)))) (aN))) (aC (eLst (aC (eTup (aC (eV 4) (aC (eIxV 1 (eV 4)) (aN)))) (aN))) (aN))))) (vs := [4]) (env := V__law_chain r1 (.lst true (frR 12 q)) b c)
      (List.range 11).reverse (fun k => .int (k : Nat)) (fun k => deedD true ([(k + 1, 1)], [(k, q k)])) fun k hk => by
        have h1 : k < 11 := by simpa using hk
        have f1 : D.tup [.int 1, .int 1] = fr 1 := rfl
        exact ⟨_, V__law_chain r1 (.lst true (frR 12 q)) b c (.int k), V__law_chain r1 (.lst true (frR 12 q)) b c (.int k), rfl, rfl, by simp [at0 k h1, at1 k h1, deedD, sideL, row, f1], rfl⟩
    rw [rv]
    exact this.trans (by simp [deedsL])
  have c4 : ∀ a b c, C__law_chain_4 (rangeD 0 12) (V__law_chain r1 a b c) = some (deedsL true ((List.range 12).map fun k => ([(k, 1)], [])), V__law_chain r1 a b c) := fun a b c => by
    have := lcL_map (f := gN 4) (b := bYes) (m := (eTup (aC (eLst (aC (eTup (aC (eV 4) (aC (eTup (aC (eC (.int 1)) (aC (eC (.int 1)) (aN)))) (aN)))) (aN))) (aC (eLst (aN)) (aN))))) (vs := [4]) (env := V__law_chain r1 a b c)
      (List.range 12) (fun k => .int (k : Nat)) (fun k => deedD true ([(k, 1)], [])) fun k hk => by
        have f1 : D.tup [.int 1, .int 1] = fr 1 := rfl
        exact ⟨_, V__law_chain r1 a b c (.int k), V__law_chain r1 a b c (.int k), rfl, rfl, by simp [deedD, sideL, row, f1], rfl⟩
    rw [rangeD0]
    exact this.trans (by simp [deedsL])
  refine ⟨q, .tup [.int 12, .lst true (deedsL false ((List.range 11).reverse.map fun k => ([(k, q k)], [(k + 1, q (k + 1))])) ++ (deedsL false ((List.range 11).reverse.map fun k => ([(k + 1, 1)], [(k, q k)])) ++ deedsL true ((List.range 12).map fun k => ([(k, 1)], []))))], r1, ?_, ?_, rfl, hq'⟩
  rotate_left
  · have e1 := shL_deedsL false ((List.range 11).reverse.map fun k => (([(k, q k)], [(k + 1, q (k + 1))]) : Deed))
    have e2 := shL_deedsL false ((List.range 11).reverse.map fun k => (([(k + 1, 1)], [(k, q k)]) : Deed))
    have e3 := shL_deedsL true ((List.range 12).map fun k => (([(k, 1)], []) : Deed))
    simp only [sh_tup, shL_cons, shL_nil, sh_lst, sh_int, shL_app, e1, e2, e3, netD]
    simp only [deedsL, chainL, List.map_append, List.append_assoc]
    rfl
  have hl1 : (rangeD 0 12).length ≤ 100000 := by rw [rangeD_len]; decide
  have hl2 : (rangeD 0 11).length ≤ 100000 := by rw [rangeD_len]; decide
  simp [m__law_chain, b__law_chain, l1, rangeD_len, c2, c3, c4, hr1.nd, netD]
theorem wide_turn {S N : D} {m : Nat} {ds : List Deed} {w : D} (hw : sh w = netD false m ds) (hd : isDead w = false) (hm : m = 12) (hn : ds.length = 34) (hN : NetOk m ds) (hl : ∀ d ∈ ds, d.1.length ≤ 1000 ∧ d.2.length ≤ 1000) (hN1 : isDead N = false) (st : Int) (x4 x5 : D) :
    ∃ y4 y5, B_law_3 (V_law S N w (.int st) x4 x5) = .nx (V_law S N w (.int st) y4 y5) := by
  subst hm
  let f : Nat → Rat := fun j => if (j : Int) = st then 1 else 0
  have lc : C_law_1 (rangeD 0 12) (V_law S N w (.int st) x4 x5) = some (frR 12 f, V_law S N w (.int st) x4 x5) := by
    rw [rangeD0]
    exact lcL_map (List.range 12) (fun k => .int (k : Nat)) (fun k => fr (f k)) fun k hk => ⟨_, V_law S N w (.int st) x4 x5 .dead .dead .dead .dead .dead .dead (.int k), V_law S N w (.int st) x4 x5 .dead .dead .dead .dead .dead .dead (.int k), rfl, rfl, by
      by_cases e : (k : Int) = st
      · have e' : ((k : Int) == st) = true := by simpa using e
        have f1 : f k = 1 := if_pos e
        simp [gInt, e', f1]
        rfl
      · have e' : ((k : Int) == st) = false := by simpa using e
        have f1 : f k = 0 := if_neg e
        simp [gInt, e', f1]
        rfl, rfl⟩
  have pb : ∀ (ks : List Nat) (y5 : D), Nums ds.length ks → B_law_2 (V_law S N w (.int st) (.lst true (frR 12 f)) (.lst false (natsL ks))) = .nx (V_law S N w (.int st) (.lst true (frR 12 f)) (.lst false (natsL ks))) := fun ks y5 h => by
    have := right_spec (f := f) (o := false) hN hl h
    simp [B_law_2, hw, hd, this]
  have k1 : Nums ds.length (List.range 11) := ⟨fun k hk => by have := List.mem_range.mp hk; omega, by simp⟩
  have k2 : Nums ds.length (List.range 34) := ⟨fun k hk => by have := List.mem_range.mp hk; omega, by simp⟩
  have k3 : Nums ds.length ((List.range 23).map (11 + ·)) := ⟨fun k hk => by
    obtain ⟨j, hj, rfl⟩ := List.mem_map.mp hk
    have := List.mem_range.mp hj
    omega, by simp⟩
  have r3 : rangeD 11 23 = natsL ((List.range 23).map (11 + ·)) := by
    unfold rangeD natsL
    rw [List.map_map]
    exact List.map_congr_left fun k _ => by simp
  have fo : forL T_law_2 B_law_2 [.lst false (natsL (List.range 11)), .lst false (natsL (List.range 34)), .lst false (natsL ((List.range 23).map (11 + ·)))] (V_law S N w (.int st) (.lst true (frR 12 f)) x5) =
      .nx (V_law S N w (.int st) (.lst true (frR 12 f)) (.lst false (natsL ((List.range 23).map (11 + ·))))) := by
    refine (forL_step (by rfl) (pb (List.range 11) x5 k1)).trans ?_
    refine (forL_step (by rfl) (pb (List.range 34) x5 k2)).trans ?_
    exact (forL_step (by rfl) (pb _ x5 k3)).trans rfl
  refine ⟨.lst true (frR 12 f), .lst false (natsL ((List.range 23).map (11 + ·))), ?_⟩
  · have hz : (rangeD 0 12).length ≤ 100000 := by rw [rangeD_len]; decide
    rw [range_nats] at lc
    simp [B_law_3, lc, range_nats, r3, fo]
theorem toPy_HL {a b : List D} (h : shL a = shL b) : toPyL a = toPyL b := by rw [← toPyL_sh a, h, toPyL_sh]
theorem hand_ne {m : Nat} {ds : List Deed} {HL : List D} {f : Nat → Rat} {ks : List Nat} (h : shL HL = deedsL false ds) (b c d : Bool) : fNe (.lst true [.tup [.int (m : Int), .lst true HL], .lst true (frR m f), .lst true (natsL ks)]) (.lst b [netD false m ds, .lst c (frR m f), .lst d (natsL ks)]) = some (.bl false) := by
  have e1 : toPyL HL = toPyL (deedsL false ds) := toPy_HL (by rw [h, shL_deedsL])
  have e2 := fEq_same (a := .lst b [netD false m ds, .lst c (frR m f), .lst d (natsL ks)]) (b := .lst true [.tup [.int (m : Int), .lst true HL], .lst true (frR m f), .lst true (natsL ks)]) (n := 8) (by
    have h1 : pl (netD false m ds) 7 = true := by
      simp only [netD, pl, plL, Bool.and_true, Bool.true_and]
      exact plL_map _ fun d _ => pl_deed false d 1
    simp [pl, plL, h1]
    exact ⟨plL_map _ fun x _ => pl_fr _ 5, plL_map _ fun _ _ => rfl⟩) (by decide) (by simp [netD, toPy, toPyL, e1])
  have e3 := fEq_same (a := .lst b [netD false m ds, .lst c (frR m f), .lst d (natsL ks)]) (b := .lst b [netD false m ds, .lst c (frR m f), .lst d (natsL ks)]) (n := 8) (by
    have h1 : pl (netD false m ds) 7 = true := by
      simp only [netD, pl, plL, Bool.and_true, Bool.true_and]
      exact plL_map _ fun d _ => pl_deed false d 1
    simp [pl, plL, h1]
    exact ⟨plL_map _ fun x _ => pl_fr _ 5, plL_map _ fun _ _ => rfl⟩) (by decide) rfl
  have tp : toPy (.lst true [.tup [.int (m : Int), .lst true HL], .lst true (frR m f), .lst true (natsL ks)]) = toPy (.lst b [netD false m ds, .lst c (frR m f), .lst d (natsL ks)]) := by simp [netD, toPy, toPyL, e1]
  obtain ⟨p, h1, h2, h3⟩ := pl_py (.lst b [netD false m ds, .lst c (frR m f), .lst d (natsL ks)]) 8 (by
    have h1 : pl (netD false m ds) 7 = true := by
      simp only [netD, pl, plL, Bool.and_true, Bool.true_and]
      exact plL_map _ fun d _ => pl_deed false d 1
    simp [pl, plL, h1]
    exact ⟨plL_map _ fun x _ => pl_fr _ 5, plL_map _ fun _ _ => rfl⟩)
  have q := eqD_of (tp.trans h1) h1 h2 h2 (by omega) (by omega)
  rw [SeqAt.eqv_refl p h2] at q
  simp [fNe, q]
def swp (d : Deed) : Deed := (d.2, d.1)
theorem swp_ok {m : Nat} {ds : List Deed} (hN : NetOk m ds) : NetOk m (ds.map swp) := ⟨hN.mm, by simp; exact hN.n, fun d hd => by
  obtain ⟨x, hx, rfl⟩ := List.mem_map.mp hd
  exact ⟨(hN.d x hx).r, (hN.d x hx).l⟩⟩
/-- the deeds handed, behind the one that stands twice -/
theorem twice_set {S w a k p x3 x4 x5 x11 : D} {m : Nat} {ds : List Deed} {st kk : D} {tw : Bool} (ht : tw = true → ∃ d0 mid, ds = d0 :: (mid ++ [d0])) :
    ∃ HL : List D, shL HL = deedsL false ds ∧ HL.length = ds.length ∧
      (sIf (bOf (eBinL fEq 6 (eC (.int 1)))) (sSetP 10 [.ix 0, .ix 1] (.ix (-1)) (eP 10 [.ix 0, .ix 1, .ix 0])) (sPass)) (V_law S (netD false m ds) w x3 x4 x5 (.int (if tw then 1 else 0)) a k p (.lst true [netD true m ds, st, kk]) x11) =
        .nx (V_law S (netD false m ds) w x3 x4 x5 (.int (if tw then 1 else 0)) a k p (.lst true [.tup [.int (m : Int), .lst true HL], st, kk]) x11) := by
  cases tw with
  | false => exact ⟨deedsL true ds, shL_deedsL _ _, by simp, by simp [netD]⟩
  | true =>
    obtain ⟨d0, mid, rfl⟩ := ht rfl
    refine ⟨deedD false d0 :: (deedsL true mid ++ [deedD false d0]), ?_, by simp, ?_⟩
    · have : deedsL false (d0 :: (mid ++ [d0])) = deedD false d0 :: (deedsL false mid ++ [deedD false d0]) := by simp [deedsL]
      rw [this, shL_cons, shL_app, shL_deedsL]
      simp
    · have e0 : deedsL true (d0 :: (mid ++ [d0])) = deedD true d0 :: (deedsL true mid ++ [deedD true d0]) := by simp [deedsL]
      have x1 : ∀ n : Nat, L2.ixN (n + 1 + 1) (-1) = some (n + 1) := fun n => by
        unfold L2.ixN
        rw [if_neg (by omega)]
        split
        · simp; omega
        · omega
      have x2 : ∀ n : Nat, L2.ixN (n + 1 + 1) 0 = some 0 := fun n => ixN0 (by omega)
      have s1 : (deedsL true mid ++ [deedD true d0]).set mid.length (deedD false d0) = deedsL true mid ++ [deedD false d0] := by
        rw [List.set_append_right _ _ (by simp)]
        simp
      have o1 : own (deedD true d0) = true := by simp [deedD]
      have y1 : L2.ixN 3 0 = some 0 := rfl
      have y2 : L2.ixN 2 1 = some 1 := rfl
      have o2 : own (deedD false d0) = false := by simp
      simp [netD, e0, idx1, y1, y2, itD, o1, o2, x1, x2, s1]
theorem seq_nx {a b : Stm} {env e1 : Fl.Env} (h : a env = .nx e1) : sSeq a b env = b e1 := by rw [sSeq_app, h]
theorem turn18 {ns : List Int} {m : Nat} {ds : List Deed} {k : Nat} {tw : Bool} {S : D} (hS : S = .frz (ns.map .int)) (hk : k < 1000) (hN : NetOk m ds) (hm0 : 0 < m) (hn9 : ds.length ≤ 900) (hl : ∀ d ∈ ds, d.1.length ≤ 1000 ∧ d.2.length ≤ 1000) (ht : tw = true → ∃ d0 mid, ds = d0 :: (mid ++ [d0])) (x2 : D) (i3 : Int) (x4 x5 x9 x10 x11 : D) :
    ∃ (y2 y4 y5 y9 y10 y11 : D), B_law_6 (V_law S (netD false m ds) x2 (.int i3) x4 x5 (.int (if tw then 1 else 0)) (netD true m (ds.map swp)) (.int k) x9 x10 x11) = .nx (V_law S (netD false m ds) y2 (.int i3) y4 y5 (.int (if tw then 1 else 0)) (netD true m (ds.map swp)) (.int k) y9 y10 y11) := by
  have hm := hN.mm
  have hn := hN.n
  obtain ⟨r, e1, hr⟩ := pool_spec (ns := ns) (k := k) hk
  rw [← hS] at e1
  have hSd : isDead S = false := by rw [hS]; rfl
  have hSs : sh S = S := by rw [hS]; simp
  have hSo : own S = false := by rw [hS]; rfl
  have hSc : clean S = false := by rw [hS]; simp [clean]
  obtain ⟨f, r1, e2, hr1, hf⟩ := stand2_draw (m := m) hr hm
  obtain ⟨ks, r2, e3, hr2, hks⟩ := some_draw (n := ds.length) hr1 hn
  have hK := Nums.of_sub hks hn
  have e5 := copy2_spec (m := m) hn
  have hz1 : m ≤ 100000 := by omega
  have hz2 : ks.length ≤ 100000 := by have := hK.n; omega
  have hz3 : ds.length ≤ 100000 := by omega
  let T : D := .int (if tw then 1 else 0)
  let A : D := netD true m (ds.map swp)
  let St : Bool → D := fun o => .lst o (frR m f)
  let Kk : Bool → D := fun o => .lst o (natsL ks)
  obtain ⟨HL, g1, g2, g3⟩ := twice_set (S := S) (w := x2) (a := A) (k := .int k) (p := r2) (x3 := .int i3) (x4 := St true) (x5 := Kk true) (x11 := x11) (m := m) (ds := ds) (st := St true) (kk := Kk true) (tw := tw) ht
  have q1 := right_spec (m := m) (ds := ds) (f := f) (ks := ks) (o := false) hN hl hK
  have hl2 : ∀ d ∈ ds.map swp, d.1.length ≤ 1000 ∧ d.2.length ≤ 1000 := fun d hd => by
    obtain ⟨x, hx, rfl⟩ := List.mem_map.mp hd
    exact ⟨(hl x hx).2, (hl x hx).1⟩
  have q2 := right_spec (m := m) (ds := ds.map swp) (f := f) (ks := ks) (o := false) (swp_ok hN) hl2 ⟨by simpa using hK.lt, hK.n⟩
  have hne := hand_ne (m := m) (f := f) (ks := ks) g1 true false false
  -- the last one, grown by a deed
  let dn : Deed := ([], [(m - 1, Rat.divInt 1 2)])
  have fd : D.tup [.int 1, .int 2] = fr (Rat.divInt 1 2) := by rw [fr_divInt (by decide)]; rfl
  have hN3 : NetOk m (ds ++ [dn]) := ⟨hm, by simp; omega, fun d hd => by
    rcases List.mem_append.mp hd with hd | hd
    · exact hN.d d hd
    · rw [List.mem_singleton.mp hd]
      exact ⟨⟨.nil, fun _ h => by simp [dn] at h, fun _ h => by simp [dn] at h, fun _ h => by simp [dn] at h⟩, cons_side (by omega) (sz_divInt (by decide) (by decide) (by decide)) (pos_divInt (by decide) (by decide))⟩⟩
  have hl3 : ∀ d ∈ ds ++ [dn], d.1.length ≤ 1000 ∧ d.2.length ≤ 1000 := fun d hd => by
    rcases List.mem_append.mp hd with hd | hd
    · exact hl d hd
    · rw [List.mem_singleton.mp hd]; exact ⟨by simp [dn], by simp [dn]⟩
  have hkl := hks.length_le
  rw [List.length_range] at hkl
  have q3 := right_spec (m := m) (ds := ds ++ [dn]) (f := f) (ks := ks ++ [ds.length]) (o := false) hN3 hl3 ⟨fun x hx => by
    rcases List.mem_append.mp hx with hx | hx
    · have := hK.lt x hx; simp; omega
    · rw [List.mem_singleton.mp hx]; simp, by simp; omega⟩
  have rc : clean r2 = true := by
    obtain ⟨l, s, h, _⟩ := hr2
    rw [h]; rfl
  let A' : D := netD false m (ds.map swp)
  let H' : D := .lst false [netD false m ds, St false, Kk false]
  have pb : ∀ (D' : List Deed), m__law_right [netD false m D', St false, Kk false] = .ok (.bl true, .dead) → B_law_5 (V_law S (netD false m ds) x2 (.int i3) (St true) (Kk true) T A' (.int k) r2 H' (netD false m D')) = .nx (V_law S (netD false m ds) x2 (.int i3) (St true) (Kk true) T A' (.int k) r2 H' (netD false m D')) := fun D' h => by
    simp [B_law_5, H', St, Kk] at h ⊢
    simp [h]
  have fo : forL T_law_5 B_law_5 [netD false m ds, netD false m (ds.map swp), netD false m ds] (V_law S (netD false m ds) x2 (.int i3) (St true) (Kk true) T A' (.int k) r2 H' x11) = .nx (V_law S (netD false m ds) x2 (.int i3) (St true) (Kk true) T A' (.int k) r2 H' (netD false m ds)) := by
    refine (forL_step (by rfl) (pb ds q1)).trans ?_
    refine (forL_step (by rfl) (pb (ds.map swp) q2)).trans ?_
    exact (forL_step (by rfl) (pb ds q1)).trans rfl
  let y2 : D := if clean x2 = true then x2 else if own x2 = false then x2 else .dead
  have hm1 : (m : Int) - 1 = ((m - 1 : Nat) : Int) := by omega
  have hHL : HL.length < 100000 := by omega
  have hz4 : ks.length < 100000 := by omega
  have q3' : m__law_right [.tup [.int (m : Int), .lst false (deedsL false ds ++ [deedD false dn])], .lst false (frR m f), .lst false (natsL ks ++ [.int (ds.length : Int)])] = .ok (.bl true, .dead) := by
    have e : netD false m (ds ++ [dn]) = .tup [.int (m : Int), .lst false (deedsL false ds ++ [deedD false dn])] := by simp [netD, deedsL]
    have e' : natsL (ks ++ [ds.length]) = natsL ks ++ [.int (ds.length : Int)] := by simp [natsL]
    rw [e, e'] at q3
    exact q3
  unfold B_law_6
  refine ⟨y2, St false, Kk false, r2, .lst false [.tup [.int (m : Int), .lst false (deedsL false ds ++ [deedD false dn])], St false, .lst false (natsL ks ++ [.int (ds.length : Int)])], .dead, ?_⟩
  refine (seq_nx (e1 := V_law S (netD false m ds) x2 (.int i3) x4 x5 T A (.int k) r x10 x11) (by simp [e1, hSd, hSs, T, A])).trans ?_
  refine (seq_nx (e1 := V_law S (netD false m ds) x2 (.int i3) (St true) x5 T A (.int k) r1 x10 x11) (by simp [e2, hr.nd, St])).trans ?_
  refine (seq_nx (e1 := V_law S (netD false m ds) x2 (.int i3) (St true) (Kk true) T A (.int k) r2 x10 x11) (by simp [e3, hr1.nd, Kk])).trans ?_
  refine (seq_nx (e1 := V_law S (netD false m ds) x2 (.int i3) (St true) (Kk true) T A (.int k) r2 (.lst true [netD true m ds, St true, Kk true]) x11) (by simp [e5, St, Kk, hz1, hz2])).trans ?_
  refine (seq_nx (e1 := V_law S (netD false m ds) x2 (.int i3) (St true) (Kk true) T A (.int k) r2 (.lst true [.tup [.int (m : Int), .lst true HL], St true, Kk true]) x11) g3).trans ?_
  refine (seq_nx (e1 := V_law S (netD false m ds) y2 (.int i3) (St true) (Kk true) T A (.int k) r2 (.lst true [.tup [.int (m : Int), .lst true HL], St true, Kk true]) .dead) ?_).trans ?_
  · have cn : ∀ ds, clean (netD false m ds) = false := fun ds => by simp [netD, clean, cleanL]
    have gt : D.tup [.int (m : Int), .lst false (deedsL false ds)] = netD false m ds := rfl
    have fo' := fo
    simp only [St, Kk, T, A', H'] at fo'
    simp [St, Kk, T, A, g1, gt, fo', backF, cn, hSc, hSo, rc, y2, clean]
  refine (seq_nx (e1 := V_law S (netD false m ds) y2 (.int i3) (St false) (Kk false) T A (.int k) r2 (.lst true [.tup [.int (m : Int), .lst true HL], St true, Kk true]) .dead) ?_).trans ?_
  · simp [St, Kk, hne]
  refine (seq_nx (e1 := V_law S (netD false m ds) y2 (.int i3) (St false) (Kk false) T A (.int k) r2 (.lst true [.tup [.int (m : Int), .lst true (HL ++ [deedD true dn])], St true, Kk true]) .dead) ?_).trans ?_
  · have y1 : L2.ixN 3 0 = some 0 := rfl
    have y2 : L2.ixN 2 1 = some 1 := rfl
    simp [idx1, y1, y2, itD, hHL, hm1, fd, deedD, dn, sideL, row]
  refine (seq_nx (e1 := V_law S (netD false m ds) y2 (.int i3) (St false) (Kk false) T A (.int k) r2 (.lst true [.tup [.int (m : Int), .lst true (HL ++ [deedD true dn])], St true, .lst true (natsL ks ++ [.int (ds.length : Int)])]) .dead) ?_).trans ?_
  · have y1 : L2.ixN 3 2 = some 2 := rfl
    simp [idx1, y1, itD, Kk, hz4]
  · simp [shL_app, g1, q3', St, T, A]
theorem deeds_nil {a b : Bool} (ds : List Deed) : fNe (.lst a (deedsL false ds)) (.lst b []) = some (.bl (!ds.isEmpty)) := by
  have := (fEq_nilL (a := a) (b := b) (xs := deedsL false ds) (n := 5) (plL_map _ fun d _ => pl_deed false d 1) (by decide)).2
  have e : (deedsL false ds).isEmpty = ds.isEmpty := by cases ds <;> rfl
  rwa [e] at this
theorem cut_t (l : List D) (tw : Bool) : Fl.cutD l none (some (if tw then 1 else 0)) = l.take (if tw then 1 else 0) := by
  cases tw with
  | false => simp [Fl.cutD, HT.sIx]
  | true => cases l <;> simp [Fl.cutD, HT.sIx]
theorem law_true (ns : List Int) (h : ns.length ≤ 63) : ∃ d0, m_law [.frz (ns.map .int)] = .ok (.bl true, d0) := by
  obtain ⟨m, ds, e1, hN, m0, m8, hn, hd⟩ := net2_draw (ns := ns) (at_ := 0) (most := 8) (by decide) (by decide) (by decide)
  have hl : ∀ d ∈ ds, d.1.length ≤ 1000 ∧ d.2.length ≤ 1000 := fun d hd' => by have := hd d hd'; omega
  have e1' : m_net2 [.frz (ns.map .int), .int 0, .int 8] = .ok (netD true m ds, .dead) := e1
  obtain ⟨r, e2, hr⟩ := pool_spec (ns := ns) (k := 11) (by decide)
  obtain ⟨q, w, r', e3, hw, hwd, hq⟩ := chain_draw hr
  obtain ⟨c1, c2, c3⟩ := chain_ok hq
  obtain ⟨ra, e4, hra⟩ := pool_spec (ns := ns) (k := 12) (by decide)
  obtain ⟨x, rb, e5, hrb, x0, x1⟩ := take2_spec hra (n := 12) (by decide) (by decide)
  obtain ⟨rc, e6, hrc⟩ := pool_spec (ns := ns) (k := 13) (by decide)
  obtain ⟨y, rd, e7, hrd, y0, y1⟩ := take2_spec hrc (n := 4) (by decide) (by decide)
  let S : D := .frz (ns.map .int)
  have e2' : m__law_pool [S, .int 11] = .ok (r, .dead) := e2
  have e4' : m__law_pool [S, .int 12] = .ok (ra, .dead) := e4
  have e6' : m__law_pool [S, .int 13] = .ok (rc, .dead) := e6
  have e1'' : m_net2 [S, .int 0, .int 8] = .ok (netD true m ds, .dead) := e1
  have hSd : isDead S = false := rfl
  have hSs : sh S = S := by simp [S]
  obtain ⟨a4, a5, f1⟩ := wide_turn (S := S) (N := netD true m ds) hw hwd rfl c2 c1 c3 (by simp) x .dead .dead
  obtain ⟨b4, b5, f2⟩ := wide_turn (S := S) (N := netD true m ds) hw hwd rfl c2 c1 c3 (by simp) 0 a4 a5
  have fo : forL T_law_3 B_law_3 [.int x, .int 0] (V_law S (netD true m ds) w) = .nx (V_law S (netD true m ds) w (.int 0) b4 b5) := by
    refine (forL_step (by rfl) f1).trans ?_
    exact (forL_step (by rfl) f2).trans rfl
  let tw : Bool := !ds.isEmpty && (y == 0)
  let D' : List Deed := ds ++ ds.take (if tw then 1 else 0)
  have ht : tw = true → ∃ d0 mid, D' = d0 :: (mid ++ [d0]) := fun h => by
    cases hds : ds with
    | nil => simp [tw, hds] at h
    | cons d0 mid => exact ⟨d0, mid, by simp [D', h, hds]⟩
  have hD : ∀ d ∈ D', d ∈ ds := fun d hd => by
    rcases List.mem_append.mp hd with hd | hd
    · exact hd
    · exact List.mem_of_mem_take hd
  have hDl : D'.length ≤ 20 := by
    have : D'.length = ds.length + (ds.take (if tw then 1 else 0)).length := List.length_append
    have h2 := List.length_take_le (if tw then 1 else 0) ds
    have h3 : (ds.take (if tw then 1 else 0)).length ≤ ds.length := List.length_take_le' _ _
    omega
  have hN' : NetOk m D' := ⟨hN.mm, by omega, fun d hd => hN.d d (hD d hd)⟩
  have hl' : ∀ d ∈ D', d.1.length ≤ 1000 ∧ d.2.length ≤ 1000 := fun d hd => hl d (hD d hd)
  have ha : deedsL false ds ++ (deedsL false ds).take (if tw then 1 else 0) = deedsL false D' := by simp [D', deedsL, List.map_take]
  have lc4 : ∀ (x3 x4 x5 x6 : D), C_law_4 (deedsL false D') (V_law S (netD false m D') w x3 x4 x5 x6) = some (deedsL true (D'.map swp), V_law S (netD false m D') w x3 x4 x5 x6) := fun x3 x4 x5 x6 => by
    have := lcL_map (f := gN 13) (b := bYes) (m := eTup (aC (eG1 gList (eIxV 13 (eC (.int 1)))) (aC (eG1 gList (eIxV 13 (eC (.int 0)))) (aN)))) (vs := [13]) (env := V_law S (netD false m D') w x3 x4 x5 x6) D' (deedD false) (fun d => deedD true (swp d)) fun d hd =>
      ⟨_, V_law S (netD false m D') w x3 x4 x5 x6 .dead .dead .dead .dead .dead .dead (deedD false d), V_law S (netD false m D') w x3 x4 x5 x6 .dead .dead .dead .dead .dead .dead (deedD false d), rfl, rfl, by simp [gList, itD, deedD, swp], rfl⟩
    exact this.trans (by simp [deedsL])
  obtain ⟨n, hn1, hn2⟩ : ∃ n : Nat, n ≤ 52 ∧ (max 13 (min (ns.length : Int) 63) - 11).toNat = n := ⟨_, by omega, rfl⟩
  obtain ⟨e, hf, x2, x4, x5, x8, x9, x10, x11, rfl⟩ := forL_rng (z := 11) (f := T_law_6) (body := B_law_6) (fun k env => ∃ (x2 x4 x5 x8 x9 x10 x11 : D), env = V_law S (netD false m D') x2 (.int 0) x4 x5 (.int (if tw then 1 else 0)) (netD true m (D'.map swp)) x8 x9 x10 x11)
    (env := V_law S (netD false m D') w (.int 0) b4 b5 (.int (if tw then 1 else 0)) (netD true m (D'.map swp))) 11 n (fun k env h0 hk he => by
      obtain ⟨x2, x4, x5, x8, x9, x10, x11, rfl⟩ := he
      obtain ⟨y2, y4, y5, y9, y10, y11, q⟩ := turn18 (S := S) (ns := ns) (k := k) (tw := tw) rfl (by omega) hN' m0 (by omega) hl' ht x2 0 x4 x5 x9 x10 x11
      exact ⟨_, _, rfl, .inl q, y2, y4, y5, .int k, y9, y10, y11, rfl⟩) ⟨w, b4, b5, .dead, .dead, .dead, .dead, rfl⟩
  refine ⟨.dead, ?_⟩
  have h1 : -1000000 ≤ max 13 (min (ns.length : Int) 63) ∧ max 13 (min (ns.length : Int) 63) ≤ 1000000 := by omega
  have hb : b_law (V_law S) = .rt (.bl true) (V_law S (netD false m D') x2 (.int 0) x4 x5 (.int (if tw then 1 else 0)) (netD true m (D'.map swp)) x8 x9 x10 x11) := by
    unfold b_law
    refine (seq_nx (e1 := V_law S (netD true m ds)) (by simp [e1'', hSd, hSs])).trans ?_
    refine (seq_nx (e1 := V_law S (netD true m ds) w) (by simp [e2', e3, hSd, hSs, hr.nd])).trans ?_
    refine (seq_nx (e1 := V_law S (netD true m ds) w (.int 0) b4 b5) (by simp [e4', e5, hSd, hSs, hra.nd, fo])).trans ?_
    refine (seq_nx (e1 := V_law S (netD false m ds) w (.int 0) b4 b5 (.int (if tw then 1 else 0))) ?_).trans ?_
    · have dn := deeds_nil (a := false) (b := true) ds
      cases hds : ds.isEmpty with
      | true => simp [dn, hds, gInt, tw, netD]
      | false =>
        rw [hds] at dn
        by_cases hy : y = 0
        · subst hy
          simp [dn, hds, gInt, tw, e6', e7, hSd, hSs, hrc.nd, netD]
        · have hy' : (y == 0) = false := by simpa using hy
          simp [dn, hds, gInt, tw, e6', e7, hSd, hSs, hrc.nd, hy', netD]
    refine (seq_nx (e1 := V_law S (.tup [.int (m : Int), .lst true (deedsL false D')]) w (.int 0) b4 b5 (.int (if tw then 1 else 0))) ?_).trans ?_
    · have hz : ds.length + ((deedsL false ds).take (if tw then 1 else 0)).length ≤ 100000 := by
        have h3 : ((deedsL false ds).take (if tw then 1 else 0)).length ≤ (deedsL false ds).length := List.length_take_le' _ _
        rw [deedsL_len] at h3
        omega
      have ct := cut_t (deedsL false ds) tw
      generalize hT : (if tw then (1 : Int) else 0) = T at ct ⊢
      generalize (if tw then 1 else 0 : Nat) = t at ct ha hz
      have hz' : ds.length + (List.take t (deedsL false ds)).length ≤ 100000 := hz
      have hz2 : ds.length + min t ds.length ≤ 100000 := by omega
      simp [netD, ct, ha, hz2]
    refine (seq_nx (e1 := V_law S (netD false m D') w (.int 0) b4 b5 (.int (if tw then 1 else 0)) (netD true m (D'.map swp))) ?_).trans ?_
    · have gt : D.tup [.int (m : Int), .lst false (deedsL false D')] = netD false m D' := rfl
      have gt2 : D.tup [.int (m : Int), .lst true (deedsL true (D'.map swp))] = netD true m (D'.map swp) := rfl
      have hz : D'.length ≤ 100000 := by omega
      simp [gt, gt2, lc4, hz]
    refine (seq_nx (e1 := V_law S (netD false m D') x2 (.int 0) x4 x5 (.int (if tw then 1 else 0)) (netD true m (D'.map swp)) x8 x9 x10 x11) ?_).trans ?_
    · simp [S, h1, hn2] at hf ⊢
      rw [hf]
    · simp
  simp [m_law, S] at hb ⊢
  rw [hb]

section
variable {P : Program} {w : World} {K : PySem.W.Frag} {mg : Str → Option Value} {base : Heap}
def n_wet_in : List Str := ["stand", "place", "much"]
theorem sc_wet_in : FnScope ["stand", "place", "much"] ["stand"] (defScope (topS 1)) := ⟨rfl, rfl, rfl, by decide +kernel, rfl, by decide +kernel, by decide +kernel⟩
theorem fok_wet_in {f : Addr} {fd : FuncData} (Z : Bl mg) (T : Cs K mg) (F : Fun K "wet_in" "wet_in" (topS 1) f fd)  :
    FnOk P w K mg base CX0 1 f fd ["stand"] (spI K 1 m_wet_in) :=
  have S := sc_wet_in
  fn_def (io := false) F S rfl (by decide) fun cdv A outer s H E hr =>
  iss_one (is_ret (ie_lc [("place", 1), ("much", 2)] n_wet_in (defScope (topS 1)) rfl S.nd (ii_E Z.enumerate (ia_cons (ie_v 0) (ia_nil))) (kp_t (kps_c kp_n (kps_c kp_n kps_n))) (fun _ => ig_tup rfl (igs_cons (ig_name 1 S.nd) (igs_cons (ig_name 2 S.nd) (igs_nil)))) (fun _ => its_one (ib_gt (ie_ixV 2 (ie_int)) (ie_int))) (fun _ => ie_v 1)))
theorem has_wet_in {f : Addr} {fd : FuncData} (Z : Bl mg) (T : Cs K mg) (F : Fun K "wet_in" "wet_in" (topS 1) f fd) (hm : mg "wet_in" = some (.ref f))  : Has P w K mg base 1 "wet_in" 1 m_wet_in :=
  has_of F fnM_len (fok_wet_in Z T F) hm (F.binds (ps := ["stand"]) fun _ _ _ _ _ _ us hl => match us, hl with | [_], _ => rfl)

def n_takes_from : List Str := ["net", "deed", "place", "amount"]
theorem sc_takes_from : FnScope ["net", "deed", "place", "amount"] ["net", "deed"] (defScope (topS 2)) := ⟨rfl, rfl, rfl, by decide +kernel, rfl, by decide +kernel, by decide +kernel⟩
theorem fok_takes_from {f : Addr} {fd : FuncData} (Z : Bl mg) (T : Cs K mg) (F : Fun K "takes_from" "takes_from" (topS 2) f fd)  :
    FnOk P w K mg base CX0 1 f fd ["net", "deed"] (spI K 2 m_takes_from) :=
  have S := sc_takes_from
  fn_def (io := false) F S rfl (by decide) fun cdv A outer s H E hr =>
  iss_one (is_ret (ie_lc [("place", 2), ("amount", 3)] n_takes_from (defScope (topS 2)) rfl S.nd (ii_L (ie_ix (ie_ix (ie_ixV 0 (ie_int)) (ie_v 1)) (ie_int))) (kp_t (kps_c kp_n (kps_c kp_n kps_n))) (fun _ => ig_tup rfl (igs_cons (ig_name 2 S.nd) (igs_cons (ig_name 3 S.nd) (igs_nil)))) (fun _ => its_nil) (fun _ => ie_v 2)))
theorem has_takes_from {f : Addr} {fd : FuncData} (Z : Bl mg) (T : Cs K mg) (F : Fun K "takes_from" "takes_from" (topS 2) f fd) (hm : mg "takes_from" = some (.ref f))  : Has P w K mg base 1 "takes_from" 2 m_takes_from :=
  has_of F fnM_len (fok_takes_from Z T F) hm (F.binds (ps := ["net", "deed"]) fun _ _ _ _ _ _ us hl => match us, hl with | [_, _], _ => rfl)

def n_gives_to : List Str := ["net", "deed", "place", "amount"]
theorem sc_gives_to : FnScope ["net", "deed", "place", "amount"] ["net", "deed"] (defScope (topS 3)) := ⟨rfl, rfl, rfl, by decide +kernel, rfl, by decide +kernel, by decide +kernel⟩
theorem fok_gives_to {f : Addr} {fd : FuncData} (Z : Bl mg) (T : Cs K mg) (F : Fun K "gives_to" "gives_to" (topS 3) f fd)  :
    FnOk P w K mg base CX0 1 f fd ["net", "deed"] (spI K 2 m_gives_to) :=
  have S := sc_gives_to
  fn_def (io := false) F S rfl (by decide) fun cdv A outer s H E hr =>
  iss_one (is_ret (ie_lc [("place", 2), ("amount", 3)] n_gives_to (defScope (topS 3)) rfl S.nd (ii_L (ie_ix (ie_ix (ie_ixV 0 (ie_int)) (ie_v 1)) (ie_int))) (kp_t (kps_c kp_n (kps_c kp_n kps_n))) (fun _ => ig_tup rfl (igs_cons (ig_name 2 S.nd) (igs_cons (ig_name 3 S.nd) (igs_nil)))) (fun _ => its_nil) (fun _ => ie_v 2)))
theorem has_gives_to {f : Addr} {fd : FuncData} (Z : Bl mg) (T : Cs K mg) (F : Fun K "gives_to" "gives_to" (topS 3) f fd) (hm : mg "gives_to" = some (.ref f))  : Has P w K mg base 1 "gives_to" 2 m_gives_to :=
  has_of F fnM_len (fok_gives_to Z T F) hm (F.binds (ps := ["net", "deed"]) fun _ _ _ _ _ _ us hl => match us, hl with | [_, _], _ => rfl)

def n__law_pool : List Str := ["_law_script", "_law_k", "_law_cell", "_law_seed"]
theorem sc__law_pool : FnScope ["_law_script", "_law_k", "_law_cell", "_law_seed"] ["_law_script", "_law_k"] (defScope (topS 8)) := ⟨rfl, rfl, rfl, by decide +kernel, rfl, by decide +kernel, by decide +kernel⟩
theorem fok__law_pool {f : Addr} {fd : FuncData} (Z : Bl mg) (T : Cs K mg) (F : Fun K "_law_pool" "_law_pool" (topS 8) f fd)  :
    FnOk P w K mg base CX0 1 f fd ["_law_script", "_law_k"] (spI K 2 m__law_pool) :=
  have S := sc__law_pool
  fn_def (io := false) F S rfl (by decide) fun cdv A outer s H E hr =>
  iss_cons (is_set 2 S.nd (ie_int))
  (iss_cons (is_if (ib_lt (ie_v 1) (ie_lenV 0 Z.len)) (iss_one (is_set 2 S.nd (ie_ixV 0 (ie_v 1)))) (iss_nil))
  (iss_cons (is_set 3 S.nd (ie_mod (ie_mul (ie_add (ie_add (ie_add (ie_mod (ie_v 2) (ie_int)) (ie_mul (ie_mul (ie_int) (ie_v 1)) (ie_v 1))) (ie_mul (ie_int) (ie_v 1))) (ie_int)) (ie_int)) (ie_int)))
  (iss_cons (is_if (ib_lt (ie_v 2) (ie_pow (ie_int) (ie_int))) (iss_one (is_set 2 S.nd (ie_int))) (iss_nil))
  (iss_one (is_ret (ie_lst (ia_cons (ie_m 2) (ia_cons (ie_add (ie_mod (ie_mul (ie_v 3) (ie_v 3)) (ie_int)) (ie_int)) (ia_nil)))))))))
theorem has__law_pool {f : Addr} {fd : FuncData} (Z : Bl mg) (T : Cs K mg) (F : Fun K "_law_pool" "_law_pool" (topS 8) f fd) (hm : mg "_law_pool" = some (.ref f))  : Has P w K mg base 1 "_law_pool" 2 m__law_pool :=
  has_of F fnM_len (fok__law_pool Z T F) hm (F.binds (ps := ["_law_script", "_law_k"]) fun _ _ _ _ _ _ us hl => match us, hl with | [_, _], _ => rfl)

def n__law_take : List Str := ["_law_pool_here", "_law_many", "_law_found"]
theorem sc__law_take : FnScope ["_law_pool_here", "_law_many", "_law_found"] ["_law_pool_here", "_law_many"] (defScope (topS 9)) := ⟨rfl, rfl, rfl, by decide +kernel, rfl, by decide +kernel, by decide +kernel⟩
theorem fok__law_take {f : Addr} {fd : FuncData} (Z : Bl mg) (T : Cs K mg) (F : Fun K "_law_take" "_law_take" (topS 9) f fd)  :
    FnOk P w K mg base CX0 1 f fd ["_law_pool_here", "_law_many"] (spI K 2 m_take2) :=
  have S := sc__law_take
  fn_def (io := true) F S rfl (by decide) fun cdv A outer s H E hr =>
  iss_cons (is_if (ib_gt (ie_ixV 0 (ie_int)) (ie_int)) (iss_cons (is_set 2 S.nd (ie_mod (ie_ixV 0 (ie_int)) (ie_v 1)))
  (iss_cons (is_setIx 0 (ie_div (ie_ixV 0 (ie_int)) (ie_v 1)) (ie_int))
  (iss_one (is_ret (ie_m 2))))) (iss_nil))
  (iss_cons (is_setIx 0 (ie_mod (ie_add (ie_mul (ie_ixV 0 (ie_int)) (ie_int)) (ie_int)) (ie_int)) (ie_int))
  (iss_one (is_ret (ie_mod (ie_div (ie_mod (ie_mul (ie_ixV 0 (ie_int)) (ie_ixV 0 (ie_int))) (ie_int)) (ie_int)) (ie_v 1)))))
theorem has__law_take {f : Addr} {fd : FuncData} (Z : Bl mg) (T : Cs K mg) (F : Fun K "_law_take" "_law_take" (topS 9) f fd) (hm : mg "_law_take" = some (.ref f))  : Has P w K mg base 1 "_law_take" 2 m_take2 :=
  has_of F fnM_len (fok__law_take Z T F) hm (F.binds (ps := ["_law_pool_here", "_law_many"]) fun _ _ _ _ _ _ us hl => match us, hl with | [_, _], _ => rfl)

def n__law_low : List Str := ["_law_top", "_law_bottom", "_law_one", "_law_other"]
theorem sc__law_low : FnScope ["_law_top", "_law_bottom", "_law_one", "_law_other"] ["_law_top", "_law_bottom"] (defScope (topS 10)) := ⟨rfl, rfl, rfl, by decide +kernel, rfl, by decide +kernel, by decide +kernel⟩
theorem fok__law_low {f : Addr} {fd : FuncData} (Z : Bl mg) (T : Cs K mg) (F : Fun K "_law_low" "_law_low" (topS 10) f fd)  :
    FnOk P w K mg base CX0 1 f fd ["_law_top", "_law_bottom"] (spI K 2 m__law_low) :=
  have S := sc__law_low
  fn_def (io := false) F S rfl (by decide) fun cdv A outer s H E hr =>
  iss_cons (is_set 2 S.nd (ie_abs Z.abs (ie_v 0)))
  (iss_cons (is_set 3 S.nd (ie_v 1))
  (iss_cons (is_while PassesOwn.never (ib_gt (ie_v 3) (ie_int)) (iss_one (is_par 2 3 rfl S.nd (ia_cons (ie_v 3) (ia_cons (ie_mod (ie_v 2) (ie_v 3)) (ia_nil))))))
  (iss_one (is_ret (ie_tup (ia_cons (ie_div (ie_v 0) (ie_v 2)) (ia_cons (ie_div (ie_v 1) (ie_v 2)) (ia_nil))))))))
theorem has__law_low {f : Addr} {fd : FuncData} (Z : Bl mg) (T : Cs K mg) (F : Fun K "_law_low" "_law_low" (topS 10) f fd) (hm : mg "_law_low" = some (.ref f))  : Has P w K mg base 1 "_law_low" 2 m__law_low :=
  has_of F fnM_len (fok__law_low Z T F) hm (F.binds (ps := ["_law_top", "_law_bottom"]) fun _ _ _ _ _ _ us hl => match us, hl with | [_, _], _ => rfl)

def n__law_can_be : List Str := ["_law_net_here", "_law_stand_here", "_law_deeds", "_law_wet", "_law_able", "_law_turn", "_law_deed_here", "_law_takes", "_law_gives", "_law_place", "_law_row"]
theorem sc__law_can_be : FnScope ["_law_net_here", "_law_stand_here", "_law_deeds", "_law_wet", "_law_able", "_law_turn", "_law_deed_here", "_law_takes", "_law_gives", "_law_place", "_law_row"] ["_law_net_here", "_law_stand_here", "_law_deeds"] (defScope (topS 17)) := ⟨rfl, rfl, rfl, by decide +kernel, rfl, by decide +kernel, by decide +kernel⟩
theorem fok__law_can_be {f : Addr} {fd : FuncData} (Z : Bl mg) (T : Cs K mg) (F : Fun K "_law_can_be" "_law_can_be" (topS 17) f fd)  :
    FnOk P w K mg base CX0 1 f fd ["_law_net_here", "_law_stand_here", "_law_deeds"] (spI K 3 m__law_can_be) :=
  have S := sc__law_can_be
  fn_def (io := false) F S rfl (by decide) fun cdv A outer s H E hr =>
  iss_cons (is_set 3 S.nd (ie_lc [("_law_place", 9)] n__law_can_be (defScope (topS 17)) rfl S.nd (ii_R1 Z.range (ia_cons (ie_ixV 0 (ie_int)) (ia_nil))) (kp_n) (fun _ => ig_name 9 S.nd) (fun _ => its_one (ib_gt (ie_ix (ie_ixV 1 (ie_v 9)) (ie_int)) (ie_int))) (fun _ => ie_v 9)))
  (iss_cons (is_set 4 S.nd (ie_lst (ia_nil)))
  (iss_cons (is_for PassesOwn.never rfl (ii_R1 Z.range (ia_cons (ie_lenV 2 Z.len) (ia_nil))) (ig_name 5 S.nd)
  (iss_one (is_for PassesOwn.never rfl (ii_L (ie_v 2)) (ig_name 6 S.nd)
  (iss_cons (is_asg (ie_ix (ie_ixV 0 (ie_int)) (ie_v 6)) (ig_tup rfl (igs_cons (ig_name 7 S.nd) (igs_cons (ig_name 8 S.nd) (igs_nil)))))
  (iss_one (is_if (ib_w (iw_and (ib_cmpV (f := fNotIn) 4 op_notIn_seq (os_in true) (ie_v 6)) (iw_and1 (ib_eq hr.units (ie_lc [("_law_row", 10)] n__law_can_be (defScope (topS 17)) rfl S.nd (ii_L (ie_v 7)) (kp_n) (fun _ => ig_name 10 S.nd) (fun _ => its_one (ib_cmpV (f := fNotIn) 3 op_notIn_seq (os_in true) (ie_ixV 10 (ie_int)))) (fun _ => ie_v 10)) (ie_lst (ia_nil)))))) (iss_cons (is_app 4 (ie_v 6))
  (iss_one (is_expr (ie_mut1 3 PySem.F.plainAttrs_list PySem.F.slot_list_extend PySem.F.type_list_extend mt_extend lo_extend (ia_cons (ie_lc [("_law_row", 10)] n__law_can_be (defScope (topS 17)) rfl S.nd (ii_L (ie_v 8)) (kp_n) (fun _ => ig_name 10 S.nd) (fun _ => its_one (ib_cmpV (f := fNotIn) 3 op_notIn_seq (os_in true) (ie_ixV 10 (ie_int)))) (fun _ => ie_ixV 10 (ie_int))) (ia_nil)))))) (iss_nil)))))))
  (iss_one (is_ret (ie_tup (ia_cons (ie_fn1V 3 cr_sortedI cg_sort (by decide +kernel) Z.sorted) (ia_cons (ie_fn1V 4 cr_sortedI cg_sort (by decide +kernel) Z.sorted) (ia_nil))))))))
theorem has__law_can_be {f : Addr} {fd : FuncData} (Z : Bl mg) (T : Cs K mg) (F : Fun K "_law_can_be" "_law_can_be" (topS 17) f fd) (hm : mg "_law_can_be" = some (.ref f))  : Has P w K mg base 1 "_law_can_be" 3 m__law_can_be :=
  has_of F fnM_len (fok__law_can_be Z T F) hm (F.binds (ps := ["_law_net_here", "_law_stand_here", "_law_deeds"]) fun _ _ _ _ _ _ us hl => match us, hl with | [_, _, _], _ => rfl)

def n__law_copy : List Str := ["_law_net_here", "_law_takes", "_law_gives"]
theorem sc__law_copy : FnScope ["_law_net_here", "_law_takes", "_law_gives"] ["_law_net_here"] (defScope (topS 18)) := ⟨rfl, rfl, rfl, by decide +kernel, rfl, by decide +kernel, by decide +kernel⟩
theorem fok__law_copy {f : Addr} {fd : FuncData} (Z : Bl mg) (T : Cs K mg) (F : Fun K "_law_copy" "_law_copy" (topS 18) f fd)  :
    FnOk P w K mg base CX0 1 f fd ["_law_net_here"] (spI K 1 m_copy2) :=
  have S := sc__law_copy
  fn_def (io := false) F S rfl (by decide) fun cdv A outer s H E hr =>
  iss_one (is_ret (ie_tup (ia_cons (ie_ixV 0 (ie_int)) (ia_cons (ie_lc [("_law_takes", 1), ("_law_gives", 2)] n__law_copy (defScope (topS 18)) rfl S.nd (ii_L (ie_ixV 0 (ie_int))) (kp_t (kps_c kp_n (kps_c kp_n kps_n))) (fun _ => ig_tup rfl (igs_cons (ig_name 1 S.nd) (igs_cons (ig_name 2 S.nd) (igs_nil)))) (fun _ => its_nil) (fun _ => ie_tup (ia_cons (ie_ty1V 1 call_list_of cg_list (by decide +kernel) Z.list) (ia_cons (ie_ty1V 2 call_list_of cg_list (by decide +kernel) Z.list) (ia_nil))))) (ia_nil)))))
theorem has__law_copy {f : Addr} {fd : FuncData} (Z : Bl mg) (T : Cs K mg) (F : Fun K "_law_copy" "_law_copy" (topS 18) f fd) (hm : mg "_law_copy" = some (.ref f))  : Has P w K mg base 1 "_law_copy" 1 m_copy2 :=
  has_of F fnM_len (fok__law_copy Z T F) hm (F.binds (ps := ["_law_net_here"]) fun _ _ _ _ _ _ us hl => match us, hl with | [_], _ => rfl)

def n__law_numbers : List Str := ["_law_found", "_law_one"]
theorem sc__law_numbers : FnScope ["_law_found", "_law_one"] ["_law_found"] (defScope (topS 19)) := ⟨rfl, rfl, rfl, by decide +kernel, rfl, by decide +kernel, by decide +kernel⟩
theorem fok__law_numbers {f : Addr} {fd : FuncData} (Z : Bl mg) (T : Cs K mg) (F : Fun K "_law_numbers" "_law_numbers" (topS 19) f fd)  :
    FnOk P w K mg base CX0 1 f fd ["_law_found"] (spI K 1 m__law_numbers) :=
  have S := sc__law_numbers
  fn_def (io := false) F S rfl (by decide) fun cdv A outer s H E hr =>
  iss_cons (is_if (ib_not (ib_val (ie_isiV (n := "list") 0 (by decide) (by decide +kernel) Z.isinstance Z.list))) (iss_one (is_ret (ie_bl))) (iss_nil))
  (iss_one (is_ret (ie_eq hr.units (ie_lc [("_law_one", 1)] n__law_numbers (defScope (topS 19)) rfl S.nd (ii_L (ie_v 0)) (kp_n) (fun _ => ig_name 1 S.nd) (fun _ => its_one (ib_w (iw_or (ib_not (ib_val (ie_isiV (n := "int") 1 (by decide) (by decide +kernel) Z.isinstance Z.int))) (iw_or1 (ib_val (ie_isiV (n := "bool") 1 (by decide) (by decide +kernel) Z.isinstance Z.bool)))))) (fun _ => ie_v 1)) (ie_lst (ia_nil)))))
theorem has__law_numbers {f : Addr} {fd : FuncData} (Z : Bl mg) (T : Cs K mg) (F : Fun K "_law_numbers" "_law_numbers" (topS 19) f fd) (hm : mg "_law_numbers" = some (.ref f))  : Has P w K mg base 1 "_law_numbers" 1 m__law_numbers :=
  has_of F fnM_len (fok__law_numbers Z T F) hm (F.binds (ps := ["_law_found"]) fun _ _ _ _ _ _ us hl => match us, hl with | [_], _ => rfl)

def n_in_turn : List Str := ["net", "stand", "deeds", "wet", "found", "again", "deed", "place"]
theorem sc_in_turn : FnScope ["net", "stand", "deeds", "wet", "found", "again", "deed", "place"] ["net", "stand", "deeds"] (defScope (topS 5)) := ⟨rfl, rfl, rfl, by decide +kernel, rfl, by decide +kernel, by decide +kernel⟩
theorem fok_in_turn {f : Addr} {fd : FuncData} (Z : Bl mg) (T : Cs K mg) (F : Fun K "in_turn" "in_turn" (topS 5) f fd) (h_wet_in : Has P w K mg base 1 "wet_in" 1 m_wet_in) (h_takes_from : Has P w K mg base 1 "takes_from" 2 m_takes_from) (h_gives_to : Has P w K mg base 1 "gives_to" 2 m_gives_to) :
    FnOk P w K mg base CX0 2 f fd ["net", "stand", "deeds"] (spI K 3 m_in_turn) :=
  have S := sc_in_turn
  fn_def (io := false) F S rfl (by decide) fun cdv A outer s H E hr =>
  iss_cons (is_set 3 S.nd (ie_callB h_wet_in (hr.mono (by decide)) (iab_v 1 (iab_nil))))
  (iss_cons (is_set 4 S.nd (ie_lst (ia_nil)))
  (iss_cons (is_set 5 S.nd (ie_bl))
  (iss_cons (is_while PassesOwn.never (ib_val (ie_v 5)) (iss_cons (is_set 5 S.nd (ie_bl))
  (iss_one (is_for PassesOwn.never rfl (ii_L (ie_v 2)) (ig_name 6 S.nd)
  (iss_one (is_if (ib_w (iw_and (ib_cmpV (f := fNotIn) 4 op_notIn_seq (os_in true) (ie_v 6)) (iw_and1 (ib_val (ie_fn1 (cr_all rfl) cg_all (by decide +kernel) Z.all (ie_lc [("place", 7)] n_in_turn (defScope (topS 5)) rfl S.nd (ii_L (ie_callB h_takes_from (hr.mono (by decide)) (iab_v 0 (iab_v 6 (iab_nil))))) (kp_n) (fun _ => ig_name 7 S.nd) (fun _ => its_nil) (fun _ => ie_cmpV (f := fIn) 3 op_in_seq (os_in false) (ie_v 7)))))))) (iss_cons (is_app 4 (ie_v 6))
  (iss_cons (is_set 3 S.nd (ie_add (ie_v 3) (ie_lc [("place", 7)] n_in_turn (defScope (topS 5)) rfl S.nd (ii_L (ie_callB h_gives_to (hr.mono (by decide)) (iab_v 0 (iab_v 6 (iab_nil))))) (kp_n) (fun _ => ig_name 7 S.nd) (fun _ => its_one (ib_cmpV (f := fNotIn) 3 op_notIn_seq (os_in true) (ie_v 7))) (fun _ => ie_v 7))))
  (iss_one (is_set 5 S.nd (ie_bl))))) (iss_nil)))))))
  (iss_one (is_ret (ie_tup (ia_cons (ie_m 4) (ia_cons (ie_m 3) (ia_nil)))))))))
theorem has_in_turn {f : Addr} {fd : FuncData} (Z : Bl mg) (T : Cs K mg) (F : Fun K "in_turn" "in_turn" (topS 5) f fd) (hm : mg "in_turn" = some (.ref f)) (h_wet_in : Has P w K mg base 1 "wet_in" 1 m_wet_in) (h_takes_from : Has P w K mg base 1 "takes_from" 2 m_takes_from) (h_gives_to : Has P w K mg base 1 "gives_to" 2 m_gives_to) : Has P w K mg base 2 "in_turn" 3 m_in_turn :=
  has_of F fnM_len (fok_in_turn Z T F h_wet_in h_takes_from h_gives_to) hm (F.binds (ps := ["net", "stand", "deeds"]) fun _ _ _ _ _ _ us hl => match us, hl with | [_, _, _], _ => rfl)

def n__law_amount : List Str := ["_law_pool_here", "_law_way", "_law_great"]
theorem sc__law_amount : FnScope ["_law_pool_here", "_law_way", "_law_great"] ["_law_pool_here"] (defScope (topS 11)) := ⟨rfl, rfl, rfl, by decide +kernel, rfl, by decide +kernel, by decide +kernel⟩
theorem fok__law_amount {f : Addr} {fd : FuncData} (Z : Bl mg) (T : Cs K mg) (F : Fun K "_law_amount" "_law_amount" (topS 11) f fd) (h__law_take : Has P w K mg base 1 "_law_take" 2 m_take2) (h__law_low : Has P w K mg base 1 "_law_low" 2 m__law_low) :
    FnOk P w K mg base CX0 2 f fd ["_law_pool_here"] (spI K 1 m_amount2) :=
  have S := sc__law_amount
  fn_def (io := true) F S rfl (by decide) fun cdv A outer s H E hr =>
  iss_cons (is_set 1 S.nd (ie_callX 0 h__law_take (hr.mono (by decide)) (ia_cons (ie_int) (ia_nil))))
  (iss_cons (is_if (ib_lt (ie_v 1) (ie_int)) (iss_one (is_ret (ie_tup (ia_cons (ie_add (ie_int) (ie_callX 0 h__law_take (hr.mono (by decide)) (ia_cons (ie_int) (ia_nil)))) (ia_cons (ie_int) (ia_nil)))))) (iss_nil))
  (iss_cons (is_if (ib_lt (ie_v 1) (ie_int)) (iss_one (is_ret (ie_call h__law_low (hr.mono (by decide)) (ia_cons (ie_add (ie_int) (ie_callX 0 h__law_take (hr.mono (by decide)) (ia_cons (ie_int) (ia_nil)))) (ia_cons (ie_sub (ie_v 1) (ie_int)) (ia_nil)))))) (iss_nil))
  (iss_cons (is_set 2 S.nd (ie_add (ie_add (ie_int) (ie_mul (ie_callX 0 h__law_take (hr.mono (by decide)) (ia_cons (ie_pow (ie_int) (ie_int)) (ia_nil))) (ie_pow (ie_int) (ie_int)))) (ie_callX 0 h__law_take (hr.mono (by decide)) (ia_cons (ie_pow (ie_int) (ie_int)) (ia_nil)))))
  (iss_one (is_ret (ie_call h__law_low (hr.mono (by decide)) (ia_cons (ie_v 2) (ia_cons (ie_add (ie_int) (ie_callX 0 h__law_take (hr.mono (by decide)) (ia_cons (ie_int) (ia_nil)))) (ia_nil)))))))))
theorem has__law_amount {f : Addr} {fd : FuncData} (Z : Bl mg) (T : Cs K mg) (F : Fun K "_law_amount" "_law_amount" (topS 11) f fd) (hm : mg "_law_amount" = some (.ref f)) (h__law_take : Has P w K mg base 1 "_law_take" 2 m_take2) (h__law_low : Has P w K mg base 1 "_law_low" 2 m__law_low) : Has P w K mg base 2 "_law_amount" 1 m_amount2 :=
  has_of F fnM_len (fok__law_amount Z T F h__law_take h__law_low) hm (F.binds (ps := ["_law_pool_here"]) fun _ _ _ _ _ _ us hl => match us, hl with | [_], _ => rfl)

def n__law_some : List Str := ["_law_pool_here", "_law_count", "_law_way", "_law_k"]
theorem sc__law_some : FnScope ["_law_pool_here", "_law_count", "_law_way", "_law_k"] ["_law_pool_here", "_law_count"] (defScope (topS 16)) := ⟨rfl, rfl, rfl, by decide +kernel, rfl, by decide +kernel, by decide +kernel⟩
theorem fok__law_some {f : Addr} {fd : FuncData} (Z : Bl mg) (T : Cs K mg) (F : Fun K "_law_some" "_law_some" (topS 16) f fd) (h__law_take : Has P w K mg base 1 "_law_take" 2 m_take2) :
    FnOk P w K mg base CX0 2 f fd ["_law_pool_here", "_law_count"] (spI K 2 m__law_some) :=
  have S := sc__law_some
  fn_def (io := true) F S rfl (by decide) fun cdv A outer s H E hr =>
  iss_cons (is_set 2 S.nd (ie_callX 0 h__law_take (hr.mono (by decide)) (ia_cons (ie_int) (ia_nil))))
  (iss_cons (is_if (ib_cmpL 2 ((op_eqD hr.units).or op_eq) os_eq (ie_int)) (iss_one (is_ret (ie_lr1 rfl Z.list Z.range (ie_v 1)))) (iss_nil))
  (iss_one (is_ret (ie_lc [("_law_k", 3)] n__law_some (defScope (topS 16)) rfl S.nd (ii_R1 Z.range (ia_cons (ie_v 1) (ia_nil))) (kp_n) (fun _ => ig_name 3 S.nd) (fun _ => its_one (ib_lt (ie_callX 0 h__law_take (hr.mono (by decide)) (ia_cons (ie_int) (ia_nil))) (ie_v 2))) (fun _ => ie_v 3)))))
theorem has__law_some {f : Addr} {fd : FuncData} (Z : Bl mg) (T : Cs K mg) (F : Fun K "_law_some" "_law_some" (topS 16) f fd) (hm : mg "_law_some" = some (.ref f)) (h__law_take : Has P w K mg base 1 "_law_take" 2 m_take2) : Has P w K mg base 2 "_law_some" 2 m__law_some :=
  has_of F fnM_len (fok__law_some Z T F h__law_take) hm (F.binds (ps := ["_law_pool_here", "_law_count"]) fun _ _ _ _ _ _ us hl => match us, hl with | [_, _], _ => rfl)

def n_can_be : List Str := ["net", "stand", "deeds", "found", "wet"]
theorem sc_can_be : FnScope ["net", "stand", "deeds", "found", "wet"] ["net", "stand", "deeds"] (defScope (topS 6)) := ⟨rfl, rfl, rfl, by decide +kernel, rfl, by decide +kernel, by decide +kernel⟩
theorem fok_can_be {f : Addr} {fd : FuncData} (Z : Bl mg) (T : Cs K mg) (F : Fun K "can_be" "can_be" (topS 6) f fd) (h_in_turn : Has P w K mg base 2 "in_turn" 3 m_in_turn) :
    FnOk P w K mg base CX0 3 f fd ["net", "stand", "deeds"] (spI K 3 m_can_be) :=
  have S := sc_can_be
  fn_def (io := false) F S rfl (by decide) fun cdv A outer s H E hr =>
  iss_cons (is_asg (ie_callB h_in_turn (hr.mono (by decide)) (iab_v 0 (iab_v 1 (iab_v 2 (iab_nil))))) (ig_tup rfl (igs_cons (ig_name 3 S.nd) (igs_cons (ig_name 4 S.nd) (igs_nil)))))
  (iss_one (is_ret (ie_tup (ia_cons (ie_fn1V 4 cr_sortedI cg_sort (by decide +kernel) Z.sorted) (ia_cons (ie_fn1V 3 cr_sortedI cg_sort (by decide +kernel) Z.sorted) (ia_nil))))))
theorem has_can_be {f : Addr} {fd : FuncData} (Z : Bl mg) (T : Cs K mg) (F : Fun K "can_be" "can_be" (topS 6) f fd) (hm : mg "can_be" = some (.ref f)) (h_in_turn : Has P w K mg base 2 "in_turn" 3 m_in_turn) : Has P w K mg base 3 "can_be" 3 m_can_be :=
  has_of F fnM_len (fok_can_be Z T F h_in_turn) hm (F.binds (ps := ["net", "stand", "deeds"]) fun _ _ _ _ _ _ us hl => match us, hl with | [_, _, _], _ => rfl)

def n__law_side : List Str := ["_law_pool_here", "_law_many", "_law_size", "_law_place"]
theorem sc__law_side : FnScope ["_law_pool_here", "_law_many", "_law_size", "_law_place"] ["_law_pool_here", "_law_many"] (defScope (topS 12)) := ⟨rfl, rfl, rfl, by decide +kernel, rfl, by decide +kernel, by decide +kernel⟩
theorem fok__law_side {f : Addr} {fd : FuncData} (Z : Bl mg) (T : Cs K mg) (F : Fun K "_law_side" "_law_side" (topS 12) f fd) (h__law_take : Has P w K mg base 1 "_law_take" 2 m_take2) (h__law_amount : Has P w K mg base 2 "_law_amount" 1 m_amount2) :
    FnOk P w K mg base CX0 3 f fd ["_law_pool_here", "_law_many"] (spI K 2 m_side2) :=
  have S := sc__law_side
  fn_def (io := true) F S rfl (by decide) fun cdv A outer s H E hr =>
  iss_cons (is_set 2 S.nd (ie_callX 0 h__law_take (hr.mono (by decide)) (ia_cons (ie_int) (ia_nil))))
  (iss_one (is_ret (ie_lc [("_law_place", 3)] n__law_side (defScope (topS 12)) rfl S.nd (ii_R1 Z.range (ia_cons (ie_v 1) (ia_nil))) (kp_n) (fun _ => ig_name 3 S.nd) (fun _ => its_one (ib_lt (ie_callX 0 h__law_take (hr.mono (by decide)) (ia_cons (ie_v 1) (ia_nil))) (ie_v 2))) (fun _ => ie_tup (ia_cons (ie_v 3) (ia_cons (ie_callX 0 h__law_amount (hr.mono (by decide)) (ia_nil)) (ia_nil)))))))
theorem has__law_side {f : Addr} {fd : FuncData} (Z : Bl mg) (T : Cs K mg) (F : Fun K "_law_side" "_law_side" (topS 12) f fd) (hm : mg "_law_side" = some (.ref f)) (h__law_take : Has P w K mg base 1 "_law_take" 2 m_take2) (h__law_amount : Has P w K mg base 2 "_law_amount" 1 m_amount2) : Has P w K mg base 3 "_law_side" 2 m_side2 :=
  has_of F fnM_len (fok__law_side Z T F h__law_take h__law_amount) hm (F.binds (ps := ["_law_pool_here", "_law_many"]) fun _ _ _ _ _ _ us hl => match us, hl with | [_, _], _ => rfl)

def n__law_stand : List Str := ["_law_pool_here", "_law_many", "_law_wet", "_law_found", "_law_place", "_law_much"]
theorem sc__law_stand : FnScope ["_law_pool_here", "_law_many", "_law_wet", "_law_found", "_law_place", "_law_much"] ["_law_pool_here", "_law_many"] (defScope (topS 15)) := ⟨rfl, rfl, rfl, by decide +kernel, rfl, by decide +kernel, by decide +kernel⟩
theorem fok__law_stand {f : Addr} {fd : FuncData} (Z : Bl mg) (T : Cs K mg) (F : Fun K "_law_stand" "_law_stand" (topS 15) f fd) (h__law_take : Has P w K mg base 1 "_law_take" 2 m_take2) (h__law_amount : Has P w K mg base 2 "_law_amount" 1 m_amount2) :
    FnOk P w K mg base CX0 3 f fd ["_law_pool_here", "_law_many"] (spI K 2 m_stand2) :=
  have S := sc__law_stand
  fn_def (io := true) F S rfl (by decide) fun cdv A outer s H E hr =>
  iss_cons (is_set 2 S.nd (ie_callX 0 h__law_take (hr.mono (by decide)) (ia_cons (ie_int) (ia_nil))))
  (iss_cons (is_set 3 S.nd (ie_lst (ia_nil)))
  (iss_cons (is_for PassesOwn.never rfl (ii_R1 Z.range (ia_cons (ie_v 1) (ia_nil))) (ig_name 4 S.nd)
  (iss_cons (is_set 5 S.nd (ie_callX 0 h__law_amount (hr.mono (by decide)) (ia_nil)))
  (iss_one (is_app 3 (ie_ix (ie_lst (ia_cons (ie_tup (ia_cons (ie_int) (ia_cons (ie_int) (ia_nil)))) (ia_cons (ie_v 5) (ia_nil)))) (ie_intc Z.int (ie_lt (ie_callX 0 h__law_take (hr.mono (by decide)) (ia_cons (ie_int) (ia_nil))) (ie_v 2))))))))
  (iss_one (is_ret (ie_m 3)))))
theorem has__law_stand {f : Addr} {fd : FuncData} (Z : Bl mg) (T : Cs K mg) (F : Fun K "_law_stand" "_law_stand" (topS 15) f fd) (hm : mg "_law_stand" = some (.ref f)) (h__law_take : Has P w K mg base 1 "_law_take" 2 m_take2) (h__law_amount : Has P w K mg base 2 "_law_amount" 1 m_amount2) : Has P w K mg base 3 "_law_stand" 2 m_stand2 :=
  has_of F fnM_len (fok__law_stand Z T F h__law_take h__law_amount) hm (F.binds (ps := ["_law_pool_here", "_law_many"]) fun _ _ _ _ _ _ us hl => match us, hl with | [_, _], _ => rfl)

def n__law_chain : List Str := ["_law_pool_here", "_law_amounts", "_law_deeds", "_law_back", "_law_k"]
theorem sc__law_chain : FnScope ["_law_pool_here", "_law_amounts", "_law_deeds", "_law_back", "_law_k"] ["_law_pool_here"] (defScope (topS 21)) := ⟨rfl, rfl, rfl, by decide +kernel, rfl, by decide +kernel, by decide +kernel⟩
theorem fok__law_chain {f : Addr} {fd : FuncData} (Z : Bl mg) (T : Cs K mg) (F : Fun K "_law_chain" "_law_chain" (topS 21) f fd) (h__law_amount : Has P w K mg base 2 "_law_amount" 1 m_amount2) :
    FnOk P w K mg base CX0 3 f fd ["_law_pool_here"] (spI K 1 m__law_chain) :=
  have S := sc__law_chain
  fn_def (io := true) F S rfl (by decide) fun cdv A outer s H E hr =>
  iss_cons (is_set 1 S.nd (ie_lc [("_law_k", 4)] n__law_chain (defScope (topS 21)) rfl S.nd (ii_R1 Z.range (ia_cons (ie_int) (ia_nil))) (kp_n) (fun _ => ig_name 4 S.nd) (fun _ => its_nil) (fun _ => ie_callX 0 h__law_amount (hr.mono (by decide)) (ia_nil))))
  (iss_cons (is_setLc 2 [("_law_k", 4)] n__law_chain (defScope (topS 21)) rfl S.nd (ii_RvR Z.reversed Z.range (ie_int)) (kp_n) (fun _ => ig_name 4 S.nd) (fun _ => its_nil) (fun _ => ie_tup (ia_cons (ie_lst (ia_cons (ie_tup (ia_cons (ie_v 4) (ia_cons (ie_ixV 1 (ie_v 4)) (ia_nil)))) (ia_nil))) (ia_cons (ie_lst (ia_cons (ie_tup (ia_cons (ie_add (ie_v 4) (ie_int)) (ia_cons (ie_ixV 1 (ie_add (ie_v 4) (ie_int))) (ia_nil)))) (ia_nil))) (ia_nil)))))
  (iss_cons (is_setLc 3 [("_law_k", 4)] n__law_chain (defScope (topS 21)) rfl S.nd (ii_RvR Z.reversed Z.range (ie_int)) (kp_n) (fun _ => ig_name 4 S.nd) (fun _ => its_nil) (fun _ => ie_tup (ia_cons (ie_lst (ia_cons (ie_tup (ia_cons (ie_add (ie_v 4) (ie_int)) (ia_cons (ie_tup (ia_cons (ie_int) (ia_cons (ie_int) (ia_nil)))) (ia_nil)))) (ia_nil))) (ia_cons (ie_lst (ia_cons (ie_tup (ia_cons (ie_v 4) (ia_cons (ie_ixV 1 (ie_v 4)) (ia_nil)))) (ia_nil))) (ia_nil)))))
  (iss_one (is_ret (ie_tup (ia_cons (ie_int) (ia_cons (ie_add (ie_add (ie_v 2) (ie_v 3)) (ie_lc [("_law_k", 4)] n__law_chain (defScope (topS 21)) rfl S.nd (ii_R1 Z.range (ia_cons (ie_int) (ia_nil))) (kp_n) (fun _ => ig_name 4 S.nd) (fun _ => its_nil) (fun _ => ie_tup (ia_cons (ie_lst (ia_cons (ie_tup (ia_cons (ie_v 4) (ia_cons (ie_tup (ia_cons (ie_int) (ia_cons (ie_int) (ia_nil)))) (ia_nil)))) (ia_nil))) (ia_cons (ie_lst (ia_nil)) (ia_nil)))))) (ia_nil))))))))
theorem has__law_chain {f : Addr} {fd : FuncData} (Z : Bl mg) (T : Cs K mg) (F : Fun K "_law_chain" "_law_chain" (topS 21) f fd) (hm : mg "_law_chain" = some (.ref f)) (h__law_amount : Has P w K mg base 2 "_law_amount" 1 m_amount2) : Has P w K mg base 3 "_law_chain" 1 m__law_chain :=
  has_of F fnM_len (fok__law_chain Z T F h__law_amount) hm (F.binds (ps := ["_law_pool_here"]) fun _ _ _ _ _ _ us hl => match us, hl with | [_], _ => rfl)

def n__law_deed : List Str := ["_law_pool_here", "_law_many", "_law_way", "_law_at", "_law_takes", "_law_gives"]
theorem sc__law_deed : FnScope ["_law_pool_here", "_law_many", "_law_way", "_law_at", "_law_takes", "_law_gives"] ["_law_pool_here", "_law_many"] (defScope (topS 13)) := ⟨rfl, rfl, rfl, by decide +kernel, rfl, by decide +kernel, by decide +kernel⟩
theorem fok__law_deed {f : Addr} {fd : FuncData} (Z : Bl mg) (T : Cs K mg) (F : Fun K "_law_deed" "_law_deed" (topS 13) f fd) (h__law_take : Has P w K mg base 1 "_law_take" 2 m_take2) (h__law_amount : Has P w K mg base 2 "_law_amount" 1 m_amount2) (h__law_side : Has P w K mg base 3 "_law_side" 2 m_side2) :
    FnOk P w K mg base CX0 4 f fd ["_law_pool_here", "_law_many"] (spI K 2 m_deed2) :=
  have S := sc__law_deed
  fn_def (io := true) F S rfl (by decide) fun cdv A outer s H E hr =>
  iss_cons (is_set 2 S.nd (ie_callX 0 h__law_take (hr.mono (by decide)) (ia_cons (ie_int) (ia_nil))))
  (iss_cons (is_set 3 S.nd (ie_callX 0 h__law_take (hr.mono (by decide)) (ia_cons (ie_v 1) (ia_nil))))
  (iss_cons (is_if (ib_cmpL 2 ((op_eqD hr.units).or op_eq) os_eq (ie_int)) (iss_one (is_ret (ie_tup (ia_cons (ie_callX 0 h__law_side (hr.mono (by decide)) (ia_cons (ie_v 1) (ia_nil))) (ia_cons (ie_callX 0 h__law_side (hr.mono (by decide)) (ia_cons (ie_v 1) (ia_nil))) (ia_nil)))))) (iss_nil))
  (iss_cons (is_set 4 S.nd (ie_lst (ia_cons (ie_tup (ia_cons (ie_v 3) (ia_cons (ie_callX 0 h__law_amount (hr.mono (by decide)) (ia_nil)) (ia_nil)))) (ia_nil))))
  (iss_cons (is_set 5 S.nd (ie_lst (ia_cons (ie_tup (ia_cons (ie_mod (ie_add (ie_add (ie_v 3) (ie_int)) (ie_callX 0 h__law_take (hr.mono (by decide)) (ia_cons (ie_v 1) (ia_nil)))) (ie_v 1)) (ia_cons (ie_callX 0 h__law_amount (hr.mono (by decide)) (ia_nil)) (ia_nil)))) (ia_nil))))
  (iss_cons (is_if (ib_cmpL 2 ((op_eqD hr.units).or op_eq) os_eq (ie_int)) (iss_one (is_set 5 S.nd (ie_items rfl Z.sorted Z.dict (ie_add (ie_v 5) (ie_lst (ia_cons (ie_tup (ia_cons (ie_v 3) (ia_cons (ie_callX 0 h__law_amount (hr.mono (by decide)) (ia_nil)) (ia_nil)))) (ia_nil)))) (ho := rfl)))) (iss_nil))
  (iss_cons (is_if (ib_cmpL 2 ((op_eqD hr.units).or op_eq) os_eq (ie_int)) (iss_one (is_set 4 S.nd (ie_items rfl Z.sorted Z.dict (ie_add (ie_v 4) (ie_lst (ia_cons (ie_tup (ia_cons (ie_callX 0 h__law_take (hr.mono (by decide)) (ia_cons (ie_v 1) (ia_nil))) (ia_cons (ie_callX 0 h__law_amount (hr.mono (by decide)) (ia_nil)) (ia_nil)))) (ia_nil)))) (ho := rfl)))) (iss_nil))
  (iss_one (is_ret (ie_tup (ia_cons (ie_m 4) (ia_cons (ie_m 5) (ia_nil))))))))))))
theorem has__law_deed {f : Addr} {fd : FuncData} (Z : Bl mg) (T : Cs K mg) (F : Fun K "_law_deed" "_law_deed" (topS 13) f fd) (hm : mg "_law_deed" = some (.ref f)) (h__law_take : Has P w K mg base 1 "_law_take" 2 m_take2) (h__law_amount : Has P w K mg base 2 "_law_amount" 1 m_amount2) (h__law_side : Has P w K mg base 3 "_law_side" 2 m_side2) : Has P w K mg base 4 "_law_deed" 2 m_deed2 :=
  has_of F fnM_len (fok__law_deed Z T F h__law_take h__law_amount h__law_side) hm (F.binds (ps := ["_law_pool_here", "_law_many"]) fun _ _ _ _ _ _ us hl => match us, hl with | [_, _], _ => rfl)

def n__law_right : List Str := ["_law_net_here", "_law_stand_here", "_law_deeds", "_law_found"]
theorem sc__law_right : FnScope ["_law_net_here", "_law_stand_here", "_law_deeds", "_law_found"] ["_law_net_here", "_law_stand_here", "_law_deeds"] (defScope (topS 20)) := ⟨rfl, rfl, rfl, by decide +kernel, rfl, by decide +kernel, by decide +kernel⟩
theorem fok__law_right {f : Addr} {fd : FuncData} (Z : Bl mg) (T : Cs K mg) (F : Fun K "_law_right" "_law_right" (topS 20) f fd) (h__law_can_be : Has P w K mg base 1 "_law_can_be" 3 m__law_can_be) (h__law_numbers : Has P w K mg base 1 "_law_numbers" 1 m__law_numbers) (h_can_be : Has P w K mg base 3 "can_be" 3 m_can_be) :
    FnOk P w K mg base CX0 4 f fd ["_law_net_here", "_law_stand_here", "_law_deeds"] (spI K 3 m__law_right) :=
  have S := sc__law_right
  fn_def (io := false) F S rfl (by decide) fun cdv A outer s H E hr =>
  iss_cons (is_set 3 S.nd (ie_callB h_can_be (hr.mono (by decide)) (iab_v 0 (iab_v 1 (iab_v 2 (iab_nil))))))
  (iss_cons (is_bor [3] (Q := [0, 1, 2, 3]) (is_if (ib_w (iw_or (ib_not (ib_val (ie_isiV (n := "tuple") 3 (by decide) (by decide +kernel) Z.isinstance Z.tuple))) (iw_or (ib_ne hr.units (ie_lenV 3 Z.len) (ie_int)) (iw_or (ib_not (ib_val (ie_call h__law_numbers (hr.mono (by decide)) (ia_cons (ie_ixV 3 (ie_int)) (ia_nil))))) (iw_or1 (ib_not (ib_val (ie_call h__law_numbers (hr.mono (by decide)) (ia_cons (ie_ixV 3 (ie_int)) (ia_nil)))))))))) (iss_one (is_ret (ie_bl))) (iss_nil)))
  (iss_cons (is_if (ib_cmpL 3 ((op_neD hr.units).or op_ne) os_ne (ie_callB h__law_can_be (hr.mono (by decide)) (iab_v 0 (iab_v 1 (iab_v 2 (iab_nil)))))) (iss_one (is_ret (ie_bl))) (iss_nil))
  (iss_cons (is_expr (ie_mutP1 PySem.F.plainAttrs_list PySem.F.slot_list_append PySem.F.type_list_append mt_append lo_append (pp_ix (pp_v 3) px_int) (ia_cons (ie_int) (ia_nil))))
  (iss_cons (is_expr (ie_mutP1 PySem.F.plainAttrs_list PySem.F.slot_list_append PySem.F.type_list_append mt_append lo_append (pp_ix (pp_v 3) px_int) (ia_cons (ie_int) (ia_nil))))
  (iss_one (is_ret (ie_bl)))))))
theorem has__law_right {f : Addr} {fd : FuncData} (Z : Bl mg) (T : Cs K mg) (F : Fun K "_law_right" "_law_right" (topS 20) f fd) (hm : mg "_law_right" = some (.ref f)) (h__law_can_be : Has P w K mg base 1 "_law_can_be" 3 m__law_can_be) (h__law_numbers : Has P w K mg base 1 "_law_numbers" 1 m__law_numbers) (h_can_be : Has P w K mg base 3 "can_be" 3 m_can_be) : Has P w K mg base 4 "_law_right" 3 m__law_right :=
  has_of F fnM_len (fok__law_right Z T F h__law_can_be h__law_numbers h_can_be) hm (F.binds (ps := ["_law_net_here", "_law_stand_here", "_law_deeds"]) fun _ _ _ _ _ _ us hl => match us, hl with | [_, _, _], _ => rfl)

def n__law_net : List Str := ["_law_script", "_law_at", "_law_most", "_law_pool_here", "_law_many", "_law_k"]
theorem sc__law_net : FnScope ["_law_script", "_law_at", "_law_most", "_law_pool_here", "_law_many", "_law_k"] ["_law_script", "_law_at", "_law_most"] (defScope (topS 14)) := ⟨rfl, rfl, rfl, by decide +kernel, rfl, by decide +kernel, by decide +kernel⟩
theorem fok__law_net {f : Addr} {fd : FuncData} (Z : Bl mg) (T : Cs K mg) (F : Fun K "_law_net" "_law_net" (topS 14) f fd) (h__law_pool : Has P w K mg base 1 "_law_pool" 2 m__law_pool) (h__law_take : Has P w K mg base 1 "_law_take" 2 m_take2) (h__law_deed : Has P w K mg base 4 "_law_deed" 2 m_deed2) :
    FnOk P w K mg base CX0 5 f fd ["_law_script", "_law_at", "_law_most"] (spI K 3 m_net2) :=
  have S := sc__law_net
  fn_def (io := false) F S rfl (by decide) fun cdv A outer s H E hr =>
  iss_cons (is_set 3 S.nd (ie_callB h__law_pool (hr.mono (by decide)) (iab_v 0 (iab_v 1 (iab_nil)))))
  (iss_cons (is_set 4 S.nd (ie_add (ie_int) (ie_callX 3 h__law_take (hr.mono (by decide)) (ia_cons (ie_v 2) (ia_nil)))))
  (iss_one (is_ret (ie_tup (ia_cons (ie_v 4) (ia_cons (ie_lc [("_law_k", 5)] n__law_net (defScope (topS 14)) rfl S.nd (ii_R1 Z.range (ia_cons (ie_callX 3 h__law_take (hr.mono (by decide)) (ia_cons (ie_int) (ia_nil))) (ia_nil))) (kp_n) (fun _ => ig_name 5 S.nd) (fun _ => its_nil) (fun _ => ie_callB h__law_deed (hr.mono (by decide)) (iab_e (ie_callB h__law_pool (hr.mono (by decide)) (iab_v 0 (iab_e (ie_add (ie_add (ie_v 1) (ie_int)) (ie_v 5)) (iab_nil)))) (iab_v 4 (iab_nil))))) (ia_nil)))))))
theorem has__law_net {f : Addr} {fd : FuncData} (Z : Bl mg) (T : Cs K mg) (F : Fun K "_law_net" "_law_net" (topS 14) f fd) (hm : mg "_law_net" = some (.ref f)) (h__law_pool : Has P w K mg base 1 "_law_pool" 2 m__law_pool) (h__law_take : Has P w K mg base 1 "_law_take" 2 m_take2) (h__law_deed : Has P w K mg base 4 "_law_deed" 2 m_deed2) : Has P w K mg base 5 "_law_net" 3 m_net2 :=
  has_of F fnM_len (fok__law_net Z T F h__law_pool h__law_take h__law_deed) hm (F.binds (ps := ["_law_script", "_law_at", "_law_most"]) fun _ _ _ _ _ _ us hl => match us, hl with | [_, _, _], _ => rfl)

def n_law : List Str := ["_law_script", "_law_net_here", "_law_wide", "_law_start", "_law_stand_here", "_law_deeds", "_law_twice", "_law_around", "_law_k", "_law_pool_here", "_law_handed", "_law_some_here", "_law_place", "_law_deed_here"]
theorem sc_law : FnScope ["_law_script", "_law_net_here", "_law_wide", "_law_start", "_law_stand_here", "_law_deeds", "_law_twice", "_law_around", "_law_k", "_law_pool_here", "_law_handed", "_law_some_here", "_law_place", "_law_deed_here"] ["_law_script"] (defScope (topS 22)) := ⟨rfl, rfl, rfl, by decide +kernel, rfl, by decide +kernel, by decide +kernel⟩
theorem fok_law {f : Addr} {fd : FuncData} (Z : Bl mg) (T : Cs K mg) (F : Fun K "law" "law" (topS 22) f fd) (h__law_pool : Has P w K mg base 1 "_law_pool" 2 m__law_pool) (h__law_take : Has P w K mg base 1 "_law_take" 2 m_take2) (h__law_copy : Has P w K mg base 1 "_law_copy" 1 m_copy2) (h__law_some : Has P w K mg base 2 "_law_some" 2 m__law_some) (h__law_stand : Has P w K mg base 3 "_law_stand" 2 m_stand2) (h__law_chain : Has P w K mg base 3 "_law_chain" 1 m__law_chain) (h__law_right : Has P w K mg base 4 "_law_right" 3 m__law_right) (h__law_net : Has P w K mg base 5 "_law_net" 3 m_net2) :
    FnOk P w K mg base CX0 6 f fd ["_law_script"] (spI K 1 m_law) :=
  have S := sc_law
  fn_def (io := false) F S rfl (by decide) fun cdv A outer s H E hr =>
  iss_cons (is_set 1 S.nd (ie_callB h__law_net (hr.mono (by decide)) (iab_v 0 (iab_e (ie_int) (iab_e (ie_int) (iab_nil))))))
  (iss_cons (is_set 2 S.nd (ie_call h__law_chain (hr.mono (by decide)) (ia_cons (ie_callB h__law_pool (hr.mono (by decide)) (iab_v 0 (iab_e (ie_int) (iab_nil)))) (ia_nil))))
  (iss_cons (is_for PassesOwn.never rfl (ii_L (ie_lst (ia_cons (ie_call h__law_take (hr.mono (by decide)) (ia_cons (ie_callB h__law_pool (hr.mono (by decide)) (iab_v 0 (iab_e (ie_int) (iab_nil)))) (ia_cons (ie_int) (ia_nil)))) (ia_cons (ie_int) (ia_nil))))) (ig_name 3 S.nd)
  (iss_cons (is_setLc 4 [("_law_place", 12)] n_law (defScope (topS 22)) rfl S.nd (ii_R1 Z.range (ia_cons (ie_int) (ia_nil))) (kp_n) (fun _ => ig_name 12 S.nd) (fun _ => its_nil) (fun _ => ie_tup (ia_cons (ie_intc Z.int (ie_cmpV 3 ((op_eqD hr.units).or op_eq) os_eq (ie_v 12))) (ia_cons (ie_int) (ia_nil)))))
  (iss_one (is_for PassesOwn.never rfl (ii_L (ie_lst (ia_cons (ie_lr1 rfl Z.list Z.range (ie_int)) (ia_cons (ie_lr1 rfl Z.list Z.range (ie_int)) (ia_cons (ie_lr2 rfl Z.list Z.range (ie_int) (ie_int)) (ia_nil)))))) (ig_name 5 S.nd)
  (iss_one (is_if (ib_not (ib_val (ie_callB h__law_right (hr.mono (by decide)) (iab_v 2 (iab_v 4 (iab_v 5 (iab_nil))))))) (iss_one (is_ret (ie_bl))) (iss_nil)))))))
  (iss_cons (is_set 6 S.nd (ie_intc Z.int (ie_and (ie_ne hr.units (ie_ixV 1 (ie_int)) (ie_lst (ia_nil))) (ie_one (ie_eq hr.units (ie_call h__law_take (hr.mono (by decide)) (ia_cons (ie_callB h__law_pool (hr.mono (by decide)) (iab_v 0 (iab_e (ie_int) (iab_nil)))) (ia_cons (ie_int) (ia_nil)))) (ie_int))))))
  (iss_cons (is_set 1 S.nd (ie_tup (ia_cons (ie_ixV 1 (ie_int)) (ia_cons (ie_add (ie_ixV 1 (ie_int)) (ie_sl (ie_ixV 1 (ie_int)) io_none (io_some (ie_v 6)))) (ia_nil)))))
  (iss_cons (is_set 7 S.nd (ie_tup (ia_cons (ie_ixV 1 (ie_int)) (ia_cons (ie_lc [("_law_deed_here", 13)] n_law (defScope (topS 22)) rfl S.nd (ii_L (ie_ixV 1 (ie_int))) (kp_n) (fun _ => ig_name 13 S.nd) (fun _ => its_nil) (fun _ => ie_tup (ia_cons (ie_ty1 call_list_of cg_list (by decide +kernel) Z.list (ie_ixV 13 (ie_int))) (ia_cons (ie_ty1 call_list_of cg_list (by decide +kernel) Z.list (ie_ixV 13 (ie_int))) (ia_nil))))) (ia_nil)))))
  (iss_cons (is_for PassesOwn.never rfl (ii_R2 Z.range (ia_cons (ie_int) (ia_cons (ie_max rfl Z.max (ie_int) (ie_min rfl Z.min (ie_lenV 0 Z.len) (ie_int))) (ia_nil)))) (ig_name 8 S.nd)
  (iss_cons (is_set 9 S.nd (ie_callB h__law_pool (hr.mono (by decide)) (iab_v 0 (iab_v 8 (iab_nil)))))
  (iss_cons (is_set 4 S.nd (ie_callX 9 h__law_stand (hr.mono (by decide)) (ia_cons (ie_ixV 1 (ie_int)) (ia_nil))))
  (iss_cons (is_set 5 S.nd (ie_callX 9 h__law_some (hr.mono (by decide)) (ia_cons (ie_len Z.len (ie_ixV 1 (ie_int))) (ia_nil))))
  (iss_cons (is_set 10 S.nd (ie_lst (ia_cons (ie_callB h__law_copy (hr.mono (by decide)) (iab_v 1 (iab_nil))) (ia_cons (ie_ty1V 4 call_list_of cg_list (by decide +kernel) Z.list) (ia_cons (ie_ty1V 5 call_list_of cg_list (by decide +kernel) Z.list) (ia_nil))))))
  (iss_cons (is_if (ib_cmpL 6 ((op_eqD hr.units).or op_eq) os_eq (ie_int)) (iss_one (is_setP (ie_p (pp_ix (pp_ix (pp_ix (pp_v 10) px_int) px_int) px_int)) (pp_ix (pp_ix (pp_v 10) px_int) px_int) px_neg)) (iss_nil))
  (iss_cons (is_bor [7, 10] (Q := [0, 1, 2, 3, 4, 5, 6, 7, 8, 9, 10, 12, 13]) (is_for PassesOwn.never rfl (ii_L (ie_lst (ia_cons (ie_ixV 10 (ie_int)) (ia_cons (ie_v 7) (ia_cons (ie_ixV 10 (ie_int)) (ia_nil)))))) (ig_name 11 S.nd)
  (iss_one (is_if (ib_not (ib_val (ie_callB h__law_right (hr.mono (by decide)) (iab_v 11 (iab_e (ie_ixV 10 (ie_int)) (iab_e (ie_ixV 10 (ie_int)) (iab_nil))))))) (iss_one (is_ret (ie_bl))) (iss_nil)))))
  (iss_cons (is_if (ib_cmpL 10 ((op_neD hr.units).or op_ne) os_ne (ie_lst (ia_cons (ie_v 1) (ia_cons (ie_v 4) (ia_cons (ie_v 5) (ia_nil)))))) (iss_one (is_ret (ie_bl))) (iss_nil))
  (iss_cons (is_expr (ie_mutP1 PySem.F.plainAttrs_list PySem.F.slot_list_append PySem.F.type_list_append mt_append lo_append (pp_ix (pp_ix (pp_v 10) px_int) px_int) (ia_cons (ie_tup (ia_cons (ie_lst (ia_nil)) (ia_cons (ie_lst (ia_cons (ie_tup (ia_cons (ie_sub (ie_ixV 1 (ie_int)) (ie_int)) (ia_cons (ie_tup (ia_cons (ie_int) (ia_cons (ie_int) (ia_nil)))) (ia_nil)))) (ia_nil))) (ia_nil)))) (ia_nil))))
  (iss_cons (is_expr (ie_mutP1 PySem.F.plainAttrs_list PySem.F.slot_list_append PySem.F.type_list_append mt_append lo_append (pp_ix (pp_v 10) px_int) (ia_cons (ie_len Z.len (ie_ixV 1 (ie_int))) (ia_nil))))
  (iss_one (is_if (ib_not (ib_val (ie_call h__law_right (hr.mono (by decide)) (ia_cons (ie_ixV 10 (ie_int)) (ia_cons (ie_ixV 10 (ie_int)) (ia_cons (ie_ixV 10 (ie_int)) (ia_nil))))))) (iss_one (is_ret (ie_bl))) (iss_nil)))))))))))))
  (iss_one (is_ret (ie_bl)))))))))
theorem has_law {f : Addr} {fd : FuncData} (Z : Bl mg) (T : Cs K mg) (F : Fun K "law" "law" (topS 22) f fd) (hm : mg "law" = some (.ref f)) (h__law_pool : Has P w K mg base 1 "_law_pool" 2 m__law_pool) (h__law_take : Has P w K mg base 1 "_law_take" 2 m_take2) (h__law_copy : Has P w K mg base 1 "_law_copy" 1 m_copy2) (h__law_some : Has P w K mg base 2 "_law_some" 2 m__law_some) (h__law_stand : Has P w K mg base 3 "_law_stand" 2 m_stand2) (h__law_chain : Has P w K mg base 3 "_law_chain" 1 m__law_chain) (h__law_right : Has P w K mg base 4 "_law_right" 3 m__law_right) (h__law_net : Has P w K mg base 5 "_law_net" 3 m_net2) : Has P w K mg base 6 "law" 1 m_law :=
  has_of F fnM_len (fok_law Z T F h__law_pool h__law_take h__law_copy h__law_some h__law_stand h__law_chain h__law_right h__law_net) hm (F.binds (ps := ["_law_script"]) fun _ _ _ _ _ _ us hl => match us, hl with | [_], _ => rfl)
end
/-! what the top has written; the law's own head -/
theorem all_mk {l : PySem.W.OpenLaw} {w : World} {K : PySem.W.Frag} {h : Heap} {mg : Str → Option Value} {fa f1 f2 f3 f4 f5 f6 f7 f8 f9 f10 f11 f12 f13 f14 f15 f16 f17 f18 f19 f20 : Addr} (X : K.In h) (G : h.Ns mainGlobals mg) (hfa : mg "law" = some (.ref fa))
    {od1 an1 : Option Addr} {sl1 : Array (Option Value)} {oc1 kV1 dc1 pm1 cd1 ct1 : Value}
    {od2 an2 : Option Addr} {sl2 : Array (Option Value)} {oc2 kV2 dc2 pm2 cd2 ct2 : Value}
    {od3 an3 : Option Addr} {sl3 : Array (Option Value)} {oc3 kV3 dc3 pm3 cd3 ct3 : Value}
    {od4 an4 : Option Addr} {sl4 : Array (Option Value)} {oc4 kV4 dc4 pm4 cd4 ct4 : Value}
    {od5 an5 : Option Addr} {sl5 : Array (Option Value)} {oc5 kV5 dc5 pm5 cd5 ct5 : Value}
    {od6 an6 : Option Addr} {sl6 : Array (Option Value)} {oc6 kV6 dc6 pm6 cd6 ct6 : Value}
    {od7 an7 : Option Addr} {sl7 : Array (Option Value)} {oc7 kV7 dc7 pm7 cd7 ct7 : Value}
    {od8 an8 : Option Addr} {sl8 : Array (Option Value)} {oc8 kV8 dc8 pm8 cd8 ct8 : Value}
    {od9 an9 : Option Addr} {sl9 : Array (Option Value)} {oc9 kV9 dc9 pm9 cd9 ct9 : Value}
    {od10 an10 : Option Addr} {sl10 : Array (Option Value)} {oc10 kV10 dc10 pm10 cd10 ct10 : Value}
    {od11 an11 : Option Addr} {sl11 : Array (Option Value)} {oc11 kV11 dc11 pm11 cd11 ct11 : Value}
    {od12 an12 : Option Addr} {sl12 : Array (Option Value)} {oc12 kV12 dc12 pm12 cd12 ct12 : Value}
    {od13 an13 : Option Addr} {sl13 : Array (Option Value)} {oc13 kV13 dc13 pm13 cd13 ct13 : Value}
    {od14 an14 : Option Addr} {sl14 : Array (Option Value)} {oc14 kV14 dc14 pm14 cd14 ct14 : Value}
    {od15 an15 : Option Addr} {sl15 : Array (Option Value)} {oc15 kV15 dc15 pm15 cd15 ct15 : Value}
    {od16 an16 : Option Addr} {sl16 : Array (Option Value)} {oc16 kV16 dc16 pm16 cd16 ct16 : Value}
    {od17 an17 : Option Addr} {sl17 : Array (Option Value)} {oc17 kV17 dc17 pm17 cd17 ct17 : Value}
    {od18 an18 : Option Addr} {sl18 : Array (Option Value)} {oc18 kV18 dc18 pm18 cd18 ct18 : Value}
    {od19 an19 : Option Addr} {sl19 : Array (Option Value)} {oc19 kV19 dc19 pm19 cd19 ct19 : Value}
    {od20 an20 : Option Addr} {sl20 : Array (Option Value)} {oc20 kV20 dc20 pm20 cd20 ct20 : Value}
    (a1 : PySem.W.nsIn K mainGlobals "wet_in" = some (some (.ref f1))) (l1 : K.lookup f1 = some ⟨oc1, od1, .func (PySem.W.fnOf "wet_in" "wet_in" (defArgs (topS 1)) (defBody (topS 1)) (defScope (topS 1)) .none kV1 dc1 pm1 an1 cd1 ct1), sl1⟩) (c1 : PySem.W.codeIn K cd1 "wet_in" = true) (k1 : PySem.W.keepIn K (.ref f1) = true)
    (a2 : PySem.W.nsIn K mainGlobals "takes_from" = some (some (.ref f2))) (l2 : K.lookup f2 = some ⟨oc2, od2, .func (PySem.W.fnOf "takes_from" "takes_from" (defArgs (topS 2)) (defBody (topS 2)) (defScope (topS 2)) .none kV2 dc2 pm2 an2 cd2 ct2), sl2⟩) (c2 : PySem.W.codeIn K cd2 "takes_from" = true) (k2 : PySem.W.keepIn K (.ref f2) = true)
    (a3 : PySem.W.nsIn K mainGlobals "gives_to" = some (some (.ref f3))) (l3 : K.lookup f3 = some ⟨oc3, od3, .func (PySem.W.fnOf "gives_to" "gives_to" (defArgs (topS 3)) (defBody (topS 3)) (defScope (topS 3)) .none kV3 dc3 pm3 an3 cd3 ct3), sl3⟩) (c3 : PySem.W.codeIn K cd3 "gives_to" = true) (k3 : PySem.W.keepIn K (.ref f3) = true)
    (a4 : PySem.W.nsIn K mainGlobals "_law_pool" = some (some (.ref f4))) (l4 : K.lookup f4 = some ⟨oc4, od4, .func (PySem.W.fnOf "_law_pool" "_law_pool" (defArgs (topS 8)) (defBody (topS 8)) (defScope (topS 8)) .none kV4 dc4 pm4 an4 cd4 ct4), sl4⟩) (c4 : PySem.W.codeIn K cd4 "_law_pool" = true) (k4 : PySem.W.keepIn K (.ref f4) = true)
    (a5 : PySem.W.nsIn K mainGlobals "_law_take" = some (some (.ref f5))) (l5 : K.lookup f5 = some ⟨oc5, od5, .func (PySem.W.fnOf "_law_take" "_law_take" (defArgs (topS 9)) (defBody (topS 9)) (defScope (topS 9)) .none kV5 dc5 pm5 an5 cd5 ct5), sl5⟩) (c5 : PySem.W.codeIn K cd5 "_law_take" = true) (k5 : PySem.W.keepIn K (.ref f5) = true)
    (a6 : PySem.W.nsIn K mainGlobals "_law_low" = some (some (.ref f6))) (l6 : K.lookup f6 = some ⟨oc6, od6, .func (PySem.W.fnOf "_law_low" "_law_low" (defArgs (topS 10)) (defBody (topS 10)) (defScope (topS 10)) .none kV6 dc6 pm6 an6 cd6 ct6), sl6⟩) (c6 : PySem.W.codeIn K cd6 "_law_low" = true) (k6 : PySem.W.keepIn K (.ref f6) = true)
    (a7 : PySem.W.nsIn K mainGlobals "_law_can_be" = some (some (.ref f7))) (l7 : K.lookup f7 = some ⟨oc7, od7, .func (PySem.W.fnOf "_law_can_be" "_law_can_be" (defArgs (topS 17)) (defBody (topS 17)) (defScope (topS 17)) .none kV7 dc7 pm7 an7 cd7 ct7), sl7⟩) (c7 : PySem.W.codeIn K cd7 "_law_can_be" = true) (k7 : PySem.W.keepIn K (.ref f7) = true)
    (a8 : PySem.W.nsIn K mainGlobals "_law_copy" = some (some (.ref f8))) (l8 : K.lookup f8 = some ⟨oc8, od8, .func (PySem.W.fnOf "_law_copy" "_law_copy" (defArgs (topS 18)) (defBody (topS 18)) (defScope (topS 18)) .none kV8 dc8 pm8 an8 cd8 ct8), sl8⟩) (c8 : PySem.W.codeIn K cd8 "_law_copy" = true) (k8 : PySem.W.keepIn K (.ref f8) = true)
    (a9 : PySem.W.nsIn K mainGlobals "_law_numbers" = some (some (.ref f9))) (l9 : K.lookup f9 = some ⟨oc9, od9, .func (PySem.W.fnOf "_law_numbers" "_law_numbers" (defArgs (topS 19)) (defBody (topS 19)) (defScope (topS 19)) .none kV9 dc9 pm9 an9 cd9 ct9), sl9⟩) (c9 : PySem.W.codeIn K cd9 "_law_numbers" = true) (k9 : PySem.W.keepIn K (.ref f9) = true)
    (a10 : PySem.W.nsIn K mainGlobals "in_turn" = some (some (.ref f10))) (l10 : K.lookup f10 = some ⟨oc10, od10, .func (PySem.W.fnOf "in_turn" "in_turn" (defArgs (topS 5)) (defBody (topS 5)) (defScope (topS 5)) .none kV10 dc10 pm10 an10 cd10 ct10), sl10⟩) (c10 : PySem.W.codeIn K cd10 "in_turn" = true) (k10 : PySem.W.keepIn K (.ref f10) = true)
    (a11 : PySem.W.nsIn K mainGlobals "_law_amount" = some (some (.ref f11))) (l11 : K.lookup f11 = some ⟨oc11, od11, .func (PySem.W.fnOf "_law_amount" "_law_amount" (defArgs (topS 11)) (defBody (topS 11)) (defScope (topS 11)) .none kV11 dc11 pm11 an11 cd11 ct11), sl11⟩) (c11 : PySem.W.codeIn K cd11 "_law_amount" = true) (k11 : PySem.W.keepIn K (.ref f11) = true)
    (a12 : PySem.W.nsIn K mainGlobals "_law_some" = some (some (.ref f12))) (l12 : K.lookup f12 = some ⟨oc12, od12, .func (PySem.W.fnOf "_law_some" "_law_some" (defArgs (topS 16)) (defBody (topS 16)) (defScope (topS 16)) .none kV12 dc12 pm12 an12 cd12 ct12), sl12⟩) (c12 : PySem.W.codeIn K cd12 "_law_some" = true) (k12 : PySem.W.keepIn K (.ref f12) = true)
    (a13 : PySem.W.nsIn K mainGlobals "can_be" = some (some (.ref f13))) (l13 : K.lookup f13 = some ⟨oc13, od13, .func (PySem.W.fnOf "can_be" "can_be" (defArgs (topS 6)) (defBody (topS 6)) (defScope (topS 6)) .none kV13 dc13 pm13 an13 cd13 ct13), sl13⟩) (c13 : PySem.W.codeIn K cd13 "can_be" = true) (k13 : PySem.W.keepIn K (.ref f13) = true)
    (a14 : PySem.W.nsIn K mainGlobals "_law_side" = some (some (.ref f14))) (l14 : K.lookup f14 = some ⟨oc14, od14, .func (PySem.W.fnOf "_law_side" "_law_side" (defArgs (topS 12)) (defBody (topS 12)) (defScope (topS 12)) .none kV14 dc14 pm14 an14 cd14 ct14), sl14⟩) (c14 : PySem.W.codeIn K cd14 "_law_side" = true) (k14 : PySem.W.keepIn K (.ref f14) = true)
    (a15 : PySem.W.nsIn K mainGlobals "_law_stand" = some (some (.ref f15))) (l15 : K.lookup f15 = some ⟨oc15, od15, .func (PySem.W.fnOf "_law_stand" "_law_stand" (defArgs (topS 15)) (defBody (topS 15)) (defScope (topS 15)) .none kV15 dc15 pm15 an15 cd15 ct15), sl15⟩) (c15 : PySem.W.codeIn K cd15 "_law_stand" = true) (k15 : PySem.W.keepIn K (.ref f15) = true)
    (a16 : PySem.W.nsIn K mainGlobals "_law_chain" = some (some (.ref f16))) (l16 : K.lookup f16 = some ⟨oc16, od16, .func (PySem.W.fnOf "_law_chain" "_law_chain" (defArgs (topS 21)) (defBody (topS 21)) (defScope (topS 21)) .none kV16 dc16 pm16 an16 cd16 ct16), sl16⟩) (c16 : PySem.W.codeIn K cd16 "_law_chain" = true) (k16 : PySem.W.keepIn K (.ref f16) = true)
    (a17 : PySem.W.nsIn K mainGlobals "_law_deed" = some (some (.ref f17))) (l17 : K.lookup f17 = some ⟨oc17, od17, .func (PySem.W.fnOf "_law_deed" "_law_deed" (defArgs (topS 13)) (defBody (topS 13)) (defScope (topS 13)) .none kV17 dc17 pm17 an17 cd17 ct17), sl17⟩) (c17 : PySem.W.codeIn K cd17 "_law_deed" = true) (k17 : PySem.W.keepIn K (.ref f17) = true)
    (a18 : PySem.W.nsIn K mainGlobals "_law_right" = some (some (.ref f18))) (l18 : K.lookup f18 = some ⟨oc18, od18, .func (PySem.W.fnOf "_law_right" "_law_right" (defArgs (topS 20)) (defBody (topS 20)) (defScope (topS 20)) .none kV18 dc18 pm18 an18 cd18 ct18), sl18⟩) (c18 : PySem.W.codeIn K cd18 "_law_right" = true) (k18 : PySem.W.keepIn K (.ref f18) = true)
    (a19 : PySem.W.nsIn K mainGlobals "_law_net" = some (some (.ref f19))) (l19 : K.lookup f19 = some ⟨oc19, od19, .func (PySem.W.fnOf "_law_net" "_law_net" (defArgs (topS 14)) (defBody (topS 14)) (defScope (topS 14)) .none kV19 dc19 pm19 an19 cd19 ct19), sl19⟩) (c19 : PySem.W.codeIn K cd19 "_law_net" = true) (k19 : PySem.W.keepIn K (.ref f19) = true)
    (a20 : PySem.W.nsIn K mainGlobals "law" = some (some (.ref f20))) (l20 : K.lookup f20 = some ⟨oc20, od20, .func (PySem.W.fnOf "law" "law" (defArgs (topS 22)) (defBody (topS 22)) (defScope (topS 22)) .none kV20 dc20 pm20 an20 cd20 ct20), sl20⟩) (c20 : PySem.W.codeIn K cd20 "law" = true) (k20 : PySem.W.keepIn K (.ref f20) = true)
    (z_abs : PySem.W.nsIn K mainGlobals "abs" = some none) (z_all : PySem.W.nsIn K mainGlobals "all" = some none) (z_bool : PySem.W.nsIn K mainGlobals "bool" = some none) (z_dict : PySem.W.nsIn K mainGlobals "dict" = some none) (z_enumerate : PySem.W.nsIn K mainGlobals "enumerate" = some none) (z_int : PySem.W.nsIn K mainGlobals "int" = some none) (z_isinstance : PySem.W.nsIn K mainGlobals "isinstance" = some none) (z_len : PySem.W.nsIn K mainGlobals "len" = some none) (z_list : PySem.W.nsIn K mainGlobals "list" = some none) (z_max : PySem.W.nsIn K mainGlobals "max" = some none) (z_min : PySem.W.nsIn K mainGlobals "min" = some none) (z_range : PySem.W.nsIn K mainGlobals "range" = some none) (z_reversed : PySem.W.nsIn K mainGlobals "reversed" = some none) (z_sorted : PySem.W.nsIn K mainGlobals "sorted" = some none) (z_tuple : PySem.W.nsIn K mainGlobals "tuple" = some none) :
    ∃ fd : FuncData, (∀ (s : Shared) (v : Value), BindsTo s fd ⟨[v], []⟩ [("_law_script", v)]) ∧ ∀ base : Heap, K.In base → base.Ns mainGlobals mg → FnOk l.prog w K mg base CX0 6 fa fd ["_law_script"] (spI K 1 m_law) := by
  have e := hfa.symm.trans (PySem.W.mg_of X G a20)
  cases e
  have Z : Bl mg := ⟨PySem.W.mg_none_of X G z_abs, PySem.W.mg_none_of X G z_all, PySem.W.mg_none_of X G z_bool, PySem.W.mg_none_of X G z_dict, PySem.W.mg_none_of X G z_enumerate, PySem.W.mg_none_of X G z_int, PySem.W.mg_none_of X G z_isinstance, PySem.W.mg_none_of X G z_len, PySem.W.mg_none_of X G z_list, PySem.W.mg_none_of X G z_max, PySem.W.mg_none_of X G z_min, PySem.W.mg_none_of X G z_range, PySem.W.mg_none_of X G z_reversed, PySem.W.mg_none_of X G z_sorted, PySem.W.mg_none_of X G z_tuple⟩
  have T : Cs K mg := ⟨trivial⟩
  refine ⟨PySem.W.fnOf "law" "law" (defArgs (topS 22)) (defBody (topS 22)) (defScope (topS 22)) .none kV20 dc20 pm20 an20 cd20 ct20, fun s v => .of_eq rfl, fun base _ _ => ?_⟩
  have h_wet_in : Has l.prog w K mg base 1 "wet_in" 1 m_wet_in := has_wet_in Z T (fun_mk (st := topS 1) l1 c1 k1) (PySem.W.mg_of X G a1)
  have h_takes_from : Has l.prog w K mg base 1 "takes_from" 2 m_takes_from := has_takes_from Z T (fun_mk (st := topS 2) l2 c2 k2) (PySem.W.mg_of X G a2)
  have h_gives_to : Has l.prog w K mg base 1 "gives_to" 2 m_gives_to := has_gives_to Z T (fun_mk (st := topS 3) l3 c3 k3) (PySem.W.mg_of X G a3)
  have h__law_pool : Has l.prog w K mg base 1 "_law_pool" 2 m__law_pool := has__law_pool Z T (fun_mk (st := topS 8) l4 c4 k4) (PySem.W.mg_of X G a4)
  have h__law_take : Has l.prog w K mg base 1 "_law_take" 2 m_take2 := has__law_take Z T (fun_mk (st := topS 9) l5 c5 k5) (PySem.W.mg_of X G a5)
  have h__law_low : Has l.prog w K mg base 1 "_law_low" 2 m__law_low := has__law_low Z T (fun_mk (st := topS 10) l6 c6 k6) (PySem.W.mg_of X G a6)
  have h__law_can_be : Has l.prog w K mg base 1 "_law_can_be" 3 m__law_can_be := has__law_can_be Z T (fun_mk (st := topS 17) l7 c7 k7) (PySem.W.mg_of X G a7)
  have h__law_copy : Has l.prog w K mg base 1 "_law_copy" 1 m_copy2 := has__law_copy Z T (fun_mk (st := topS 18) l8 c8 k8) (PySem.W.mg_of X G a8)
  have h__law_numbers : Has l.prog w K mg base 1 "_law_numbers" 1 m__law_numbers := has__law_numbers Z T (fun_mk (st := topS 19) l9 c9 k9) (PySem.W.mg_of X G a9)
  have h_in_turn : Has l.prog w K mg base 2 "in_turn" 3 m_in_turn := has_in_turn Z T (fun_mk (st := topS 5) l10 c10 k10) (PySem.W.mg_of X G a10) h_wet_in h_takes_from h_gives_to
  have h__law_amount : Has l.prog w K mg base 2 "_law_amount" 1 m_amount2 := has__law_amount Z T (fun_mk (st := topS 11) l11 c11 k11) (PySem.W.mg_of X G a11) h__law_take h__law_low
  have h__law_some : Has l.prog w K mg base 2 "_law_some" 2 m__law_some := has__law_some Z T (fun_mk (st := topS 16) l12 c12 k12) (PySem.W.mg_of X G a12) h__law_take
  have h_can_be : Has l.prog w K mg base 3 "can_be" 3 m_can_be := has_can_be Z T (fun_mk (st := topS 6) l13 c13 k13) (PySem.W.mg_of X G a13) h_in_turn
  have h__law_side : Has l.prog w K mg base 3 "_law_side" 2 m_side2 := has__law_side Z T (fun_mk (st := topS 12) l14 c14 k14) (PySem.W.mg_of X G a14) h__law_take h__law_amount
  have h__law_stand : Has l.prog w K mg base 3 "_law_stand" 2 m_stand2 := has__law_stand Z T (fun_mk (st := topS 15) l15 c15 k15) (PySem.W.mg_of X G a15) h__law_take h__law_amount
  have h__law_chain : Has l.prog w K mg base 3 "_law_chain" 1 m__law_chain := has__law_chain Z T (fun_mk (st := topS 21) l16 c16 k16) (PySem.W.mg_of X G a16) h__law_amount
  have h__law_deed : Has l.prog w K mg base 4 "_law_deed" 2 m_deed2 := has__law_deed Z T (fun_mk (st := topS 13) l17 c17 k17) (PySem.W.mg_of X G a17) h__law_take h__law_amount h__law_side
  have h__law_right : Has l.prog w K mg base 4 "_law_right" 3 m__law_right := has__law_right Z T (fun_mk (st := topS 20) l18 c18 k18) (PySem.W.mg_of X G a18) h__law_can_be h__law_numbers h_can_be
  have h__law_net : Has l.prog w K mg base 5 "_law_net" 3 m_net2 := has__law_net Z T (fun_mk (st := topS 14) l19 c19 k19) (PySem.W.mg_of X G a19) h__law_pool h__law_take h__law_deed
  exact fok_law Z T (fun_mk (st := topS 22) l20 c20 k20) h__law_pool h__law_take h__law_copy h__law_some h__law_stand h__law_chain h__law_right h__law_net
end L_flowtokens_k18_what_can_be_wet
open PySem PySem.W PyProof.Rows
set_option maxHeartbeats 0 in
theorem PySem.Challenge.cw_flowtokens_k18_what_can_be_wet_holds : PySem.Challenge.rw_flowtokens_k18_what_can_be_wet.Holds := by
  w_on; o_law; k_head; (case hw => w_witness2)
  k_fill
  refine L2.walk_of (l := PySem.Challenge.rw_flowtokens_k18_what_can_be_wet) (n := 63) (k := 6) (x := "_law_script") (CX := fun _ => L2.CX0) (sp := fun w => Fl.spI _ 1 L_flowtokens_k18_what_can_be_wet.m_law) rfl (by decide) rfl ⟨rfl, by decide, by decide⟩ (fun w h Y => PySem.W.kIn_of Y) ?F (fun w H a ns hl _ hS => Fl.law_sp hS (L_flowtokens_k18_what_can_be_wet.law_true ns hl)) (fun _ _ _ _ _ h => h)
  case F =>
    intro w mg fa h KX G hmg
    refine' L_flowtokens_k18_what_can_be_wet.all_mk KX G hmg ?a1 ?l1 ?c1 ?k1 ?a2 ?l2 ?c2 ?k2 ?a3 ?l3 ?c3 ?k3 ?a4 ?l4 ?c4 ?k4 ?a5 ?l5 ?c5 ?k5 ?a6 ?l6 ?c6 ?k6 ?a7 ?l7 ?c7 ?k7 ?a8 ?l8 ?c8 ?k8 ?a9 ?l9 ?c9 ?k9 ?a10 ?l10 ?c10 ?k10 ?a11 ?l11 ?c11 ?k11 ?a12 ?l12 ?c12 ?k12 ?a13 ?l13 ?c13 ?k13 ?a14 ?l14 ?c14 ?k14 ?a15 ?l15 ?c15 ?k15 ?a16 ?l16 ?c16 ?k16 ?a17 ?l17 ?c17 ?k17 ?a18 ?l18 ?c18 ?k18 ?a19 ?l19 ?c19 ?k19 ?a20 ?l20 ?c20 ?k20 ?z_abs ?z_all ?z_bool ?z_dict ?z_enumerate ?z_int ?z_isinstance ?z_len ?z_list ?z_max ?z_min ?z_range ?z_reversed ?z_sorted ?z_tuple
    (case a1 => k_is); (case l1 => k_is); (case c1 => k_is); (case k1 => k_is); (case a2 => k_is); (case l2 => k_is); (case c2 => k_is); (case k2 => k_is); (case a3 => k_is); (case l3 => k_is); (case c3 => k_is); (case k3 => k_is); (case a4 => k_is); (case l4 => k_is); (case c4 => k_is); (case k4 => k_is); (case a5 => k_is); (case l5 => k_is); (case c5 => k_is); (case k5 => k_is); (case a6 => k_is); (case l6 => k_is); (case c6 => k_is); (case k6 => k_is); (case a7 => k_is); (case l7 => k_is); (case c7 => k_is); (case k7 => k_is); (case a8 => k_is); (case l8 => k_is); (case c8 => k_is); (case k8 => k_is); (case a9 => k_is); (case l9 => k_is); (case c9 => k_is); (case k9 => k_is); (case a10 => k_is); (case l10 => k_is); (case c10 => k_is); (case k10 => k_is); (case a11 => k_is); (case l11 => k_is); (case c11 => k_is); (case k11 => k_is); (case a12 => k_is); (case l12 => k_is); (case c12 => k_is); (case k12 => k_is); (case a13 => k_is); (case l13 => k_is); (case c13 => k_is); (case k13 => k_is); (case a14 => k_is); (case l14 => k_is); (case c14 => k_is); (case k14 => k_is); (case a15 => k_is); (case l15 => k_is); (case c15 => k_is); (case k15 => k_is); (case a16 => k_is); (case l16 => k_is); (case c16 => k_is); (case k16 => k_is); (case a17 => k_is); (case l17 => k_is); (case c17 => k_is); (case k17 => k_is); (case a18 => k_is); (case l18 => k_is); (case c18 => k_is); (case k18 => k_is); (case a19 => k_is); (case l19 => k_is); (case c19 => k_is); (case k19 => k_is); (case a20 => k_is); (case l20 => k_is); (case c20 => k_is); (case k20 => k_is); (case z_abs => k_is); (case z_all => k_is); (case z_bool => k_is); (case z_dict => k_is); (case z_enumerate => k_is); (case z_int => k_is); (case z_isinstance => k_is); (case z_len => k_is); (case z_list => k_is); (case z_max => k_is); (case z_min => k_is); (case z_range => k_is); (case z_reversed => k_is); (case z_sorted => k_is); (case z_tuple => k_is)
