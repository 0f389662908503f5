import PyProof.Rows.All
import Wide.All
import OpenK.AllK
import Wide.FinOn
import HandS.ForMost
import HandS.ForExc
import HandS.Wide
import HandS.IsInst
import HandS.Walk
import HandS.Defaults
import HandS.Conv
import HandS.Style
import HandS.Zip
import HandS.Strs
import HandS.SortInts
import HandS.Rev
import HandS.Ends
import HandS.DictTup
import HandS.SortOrd
import HandS.RevRange
import HandS.SetFor
import PyProof.Rows.SetFrom
import PyProof.ListRange
import HandS.Iter
import HandS.ExcCtx
import HandS.ExcIs
import HandS.WordsExc
import HandS.HotCalls
import HandS.Comp
import KE.KExcIs
import HandS.ExcInit
import HandS.ExcField
import HandS.ClsMeth
import HandS.CallSlots
import KE.GoesZip
import PyProof.SumWalk
import KE.SortData
import HandS.Codes
import HandS.Text
import PySem.Challenge.RW_flowtokens_k24_whole_wet_whatever_the_am
set_option Elab.async false
set_option linter.all false
set_option maxRecDepth 100000
set_option maxHeartbeats 40000000
namespace Fl
open PySem PySem.Spec PyProof.Rows L2
/-- a value as a tree; lst true: a list of which nobody else knows -/
inductive D where
  | non | bl (b : Bool) | int (i : Int) | str (x : Str)
  | tup (ds : List D) | lst (o : Bool) (ds : List D) | frz (ds : List D) | dct (o : Bool) (ks : List Key) (ds : List D)
  | exo (c : Str) (ds : List D) | obj (o : Bool) (c : Str) (ns : List Str) (ds : List D) | dead
def scD : V → Option D
  | .non => some .non
  | .bl b => some (.bl b)
  | .int i => some (.int i)
  | .str x => some (.str x)
  | _ => none
/-- an exception's fields: none, or those of its dict -/
def XoOk (Hs : Hp) (a : Addr) (l : List D) : Prop := l = [.int (a : Int)] ∨ ∃ (dd : Addr) (fs : List (Str × V)) (es : List D), l = .int (a : Int) :: .int (dd : Int) :: es ∧ Hs dd = some (.xd fs) ∧ fs.map (fun p => (scD p.2).map fun d => D.tup [.str p.1, d]) = es.map some
theorem XoOk.mono {Hs Hs' : Hp} {a : Addr} {l : List D} (h : XoOk Hs a l) (e : ∀ a o, Hs a = some o → Hs' a = some o) : XoOk Hs' a l := h.imp id fun ⟨dd, fs, es, h1, h2, h3⟩ => ⟨dd, fs, es, h1, e _ _ h2, h3⟩
/-- values vs bear trees ds: shared things stand in Hs, owned ones in H at the places A -/
inductive RL (K : PySem.W.Frag) (Hs H : Hp) : List V → List D → List Addr → Prop
  | nil : RL K Hs H [] [] []
  | sc {v d vs ds B} : scD v = some d → RL K Hs H vs ds B → RL K Hs H (v :: vs) (d :: ds) B
  | tup {a xs es A vs ds B} : SqT K Hs a xs → RL K Hs H xs es A → RL K Hs H vs ds B → RL K Hs H (.ref a :: vs) (.tup es :: ds) (A ++ B)
  | frz {a xs es vs ds B} : SqL K Hs a xs → RL K Hs H xs es [] → RL K Hs H vs ds B → RL K Hs H (.ref a :: vs) (.frz es :: ds) B
  | lstS {a xs es vs ds B} : Hs a = some (.lst xs) → RL K Hs H xs es [] → RL K Hs H vs ds B → RL K Hs H (.ref a :: vs) (.lst false es :: ds) B
  | lstO {a xs es A vs ds B} : H a = some (.lst xs) → RL K Hs H xs es A → RL K Hs H vs ds B → RL K Hs H (.ref a :: vs) (.lst true es :: ds) (a :: (A ++ B))
  | dct {a kvs ks es A vs ds B} : H a = some (.dK kvs) → kvs.map Prod.fst = ks → RL K Hs H (kvs.map Prod.snd) es A → RL K Hs H vs ds B → RL K Hs H (.ref a :: vs) (.dct true ks es :: ds) (a :: (A ++ B))
  | dctS {a kvs ks es vs ds B} : Hs a = some (.dK kvs) → kvs.map Prod.fst = ks → RL K Hs H (kvs.map Prod.snd) es [] → RL K Hs H vs ds B → RL K Hs H (.ref a :: vs) (.dct false ks es :: ds) B
  | obj {a C dx fs c ns es A vs ds B} : PySem.W.nsIn K mainGlobals c = some (some (.ref C)) → H a = some (.ins C dx fs) → fs.map Prod.fst = ns → RL K Hs H (fs.map Prod.snd) es A → RL K Hs H vs ds B → RL K Hs H (.ref a :: vs) (.obj true c ns es :: ds) (a :: (A ++ B))
  | objS {a C dx fs c ns es vs ds B} : PySem.W.nsIn K mainGlobals c = some (some (.ref C)) → Hs a = some (.ins C dx fs) → fs.map Prod.fst = ns → RL K Hs H (fs.map Prod.snd) es [] → RL K Hs H vs ds B → RL K Hs H (.ref a :: vs) (.obj false c ns es :: ds) B
  | exo {a c l vs ds B} : XoOk Hs a l → RL K Hs H vs ds B → RL K Hs H (.ref a :: vs) (.exo c l :: ds) B
  | dead {v vs ds B} : RL K Hs H vs ds B → RL K Hs H (v :: vs) (.dead :: ds) B
inductive ER (K : PySem.W.Frag) (Hs H : Hp) : L2.St → List D → List Addr → Prop
  | nil : ER K Hs H [] [] []
  | dead {x σ env A} : ER K Hs H σ env A → ER K Hs H (x :: σ) (.dead :: env) A
  | cons {v d B σ env A} : RL K Hs H [v] [d] B → ER K Hs H σ env A → ER K Hs H (some v :: σ) (d :: env) (B ++ A)
structure Ok (Hs H : Hp) (A : List Addr) : Prop where
  sub : ∀ a o, Hs a = some o → H a = some o
  nd : ∀ a, A.count a ≤ 1
  off : ∀ a, 0 < A.count a → Hs a = none
  has : ∀ a, 0 < A.count a → H a ≠ none
/-- from a state to a later one: what is shared grows, nothing but the owned is touched -/
structure Go (Hs H : Hp) (A : List Addr) (Hs' H' : Hp) (A' : List Addr) : Prop where
  hs : ∀ a o, Hs a = some o → Hs' a = some o
  keep : ∀ a o, H a = some o → A.count a = 0 → H' a = some o
  back : ∀ a o, Hs' a = some o → Hs a = none → 0 < A.count a ∨ H a = none
  own : ∀ a, 0 < A'.count a → 0 < A.count a ∨ H a = none
section
variable {K : PySem.W.Frag} {Hs H Hs' H' Hs'' H'' : Hp} {A A' A'' B C F : List Addr} {vs : List V} {ds : List D} {v : V} {d : D}
theorem Go.refl : Go Hs H A Hs H A := ⟨fun _ _ h => h, fun _ _ h _ => h, fun a o h n => (by rw [n] at h; cases h), fun _ h => .inl h⟩
theorem none_or {H : Hp} (a : Addr) : H a = none ∨ ∃ o, H a = some o := by
  cases h : H a with
  | none => exact .inl rfl
  | some o => exact .inr ⟨o, rfl⟩
theorem Go.trans (x : Go Hs H A Hs' H' A') (y : Go Hs' H' A' Hs'' H'' A'') : Go Hs H A Hs'' H'' A'' := by
  have key : ∀ a, (0 < A'.count a ∨ H' a = none) → 0 < A.count a ∨ H a = none := fun a h => by
    rcases h with h | h
    · exact x.own a h
    · rcases none_or (H := H) a with q | ⟨o, q⟩
      · exact .inr q
      · by_cases c : A.count a = 0
        · rw [x.keep a o q c] at h; cases h
        · exact .inl (Nat.pos_of_ne_zero c)
  refine ⟨fun a o h => y.hs a o (x.hs a o h), fun a o h c => ?_, fun a o h n => ?_, fun a h => key a (y.own a h)⟩
  · refine y.keep a o (x.keep a o h c) ?_
    rcases Nat.eq_zero_or_pos (A'.count a) with q | q
    · exact q
    · rcases x.own a q with r | r
      · omega
      · rw [r] at h; cases h
  · rcases none_or (H := Hs') a with q | ⟨u, q⟩
    · exact key a (y.back a o h q)
    · exact x.back a u q n
/-- fewer owned behind -/
theorem Go.less (x : Go Hs H A Hs' H' A') (h : ∀ a, 0 < B.count a → 0 < A'.count a) : Go Hs H A Hs' H' B := ⟨x.hs, x.keep, x.back, fun a q => x.own a (h a q)⟩
theorem Go.more (x : Go Hs H A Hs' H' A') (h : ∀ a, 0 < A.count a → 0 < B.count a) : Go Hs H B Hs' H' A' :=
  ⟨x.hs, fun a o q c => x.keep a o q (by have := h a; omega), fun a o q n => (x.back a o q n).imp (h a) id, fun a q => (x.own a q).imp (h a) id⟩
/-- with a frame on both sides -/
theorem Go.frame (x : Go Hs H A Hs' H' A') : Go Hs H (F ++ A) Hs' H' (F ++ A') := by
  refine ⟨x.hs, fun a o q c => x.keep a o q (by rw [List.count_append] at c; omega), fun a o q n => (x.back a o q n).imp (fun r => by rw [List.count_append]; omega) id, fun a q => ?_⟩
  rw [List.count_append] at q
  by_cases c : 0 < F.count a
  · exact .inl (by rw [List.count_append]; omega)
  · exact (x.own a (by omega)).imp (fun r => by rw [List.count_append]; omega) id
theorem ext_rd {a : Addr} {u : HO} (e : ∀ a o, Hs a = some o → Hs' a = some o) (h : Rd Hs a u) : Rd Hs' a u := by
  rcases h with h | ⟨o, h⟩
  · exact .inl (e a _ h)
  · exact .inr ⟨o, e a _ h⟩
theorem ext_l {a : Addr} {xs : List V} (e : ∀ a o, Hs a = some o → Hs' a = some o) (h : SqL K Hs a xs) : SqL K Hs' a xs := h.imp (ext_rd e) id
theorem ext_t {a : Addr} {xs : List V} (e : ∀ a o, Hs a = some o → Hs' a = some o) (h : SqT K Hs a xs) : SqT K Hs' a xs := h.imp (ext_rd e) id
theorem RL.mono (r : RL K Hs H vs ds A) (e : ∀ a o, Hs a = some o → Hs' a = some o) (k : ∀ a o, 0 < A.count a → H a = some o → H' a = some o) : RL K Hs' H' vs ds A := by
  induction r with
  | nil => exact .nil
  | sc h _ ih => exact .sc h (ih k)
  | tup h _ _ i1 i2 => exact .tup (ext_t e h) (i1 fun a o c => k a o (by rw [List.count_append]; omega)) (i2 fun a o c => k a o (by rw [List.count_append]; omega))
  | frz h _ _ i1 i2 => exact .frz (ext_l e h) (i1 fun a o c => by simp at c) (i2 k)
  | lstS h _ _ i1 i2 => exact .lstS (e _ _ h) (i1 fun a o c => by simp at c) (i2 k)
  | lstO h _ _ i1 i2 =>
    exact .lstO (k _ _ (by simp) h) (i1 fun a o c => k a o (by rw [List.count_cons, List.count_append]; omega)) (i2 fun a o c => k a o (by rw [List.count_cons, List.count_append]; omega))
  | dctS h hk _ _ i1 i2 => exact .dctS (e _ _ h) hk (i1 fun a o c => by simp at c) (i2 k)
  | objS hc h hk _ _ i1 i2 => exact .objS hc (e _ _ h) hk (i1 fun a o c => by simp at c) (i2 k)
  | obj hc h hk _ _ i1 i2 =>
    exact .obj hc (k _ _ (by simp) h) hk (i1 fun a o c => k a o (by rw [List.count_cons, List.count_append]; omega)) (i2 fun a o c => k a o (by rw [List.count_cons, List.count_append]; omega))
  | exo h _ ih => exact .exo (h.mono e) (ih k)
  | dct h hk _ _ i1 i2 =>
    exact .dct (k _ _ (by simp) h) hk (i1 fun a o c => k a o (by rw [List.count_cons, List.count_append]; omega)) (i2 fun a o c => k a o (by rw [List.count_cons, List.count_append]; omega))
  | dead _ ih => exact .dead (ih k)
theorem RL.length (r : RL K Hs H vs ds A) : vs.length = ds.length := by
  induction r <;> simp_all
theorem RL.app {vs2 : List V} {ds2 : List D} (r : RL K Hs H vs ds A) (q : RL K Hs H vs2 ds2 B) : RL K Hs H (vs ++ vs2) (ds ++ ds2) (A ++ B) := by
  induction r with
  | nil => exact q
  | sc h _ ih => exact .sc h ih
  | tup h a _ _ i2 => simpa [List.append_assoc] using RL.tup h a i2
  | frz h a _ _ i2 => exact .frz h a i2
  | lstS h a _ _ i2 => exact .lstS h a i2
  | lstO h a _ _ i2 => simpa [List.append_assoc] using RL.lstO h a i2
  | dctS h hk a _ _ i2 => exact .dctS h hk a i2
  | objS hc h hk a _ _ i2 => exact .objS hc h hk a i2
  | obj hc h hk a _ _ i2 => simpa [List.append_assoc] using RL.obj hc h hk a i2
  | exo h _ ih => exact .exo h ih
  | dct h hk a _ _ i2 => simpa [List.append_assoc] using RL.dct h hk a i2
  | dead _ ih => exact .dead ih
theorem RL.un (r : RL K Hs H (v :: vs) (d :: ds) A) : ∃ B C, A = B ++ C ∧ RL K Hs H [v] [d] B ∧ RL K Hs H vs ds C := by
  cases r with
  | sc h r => exact ⟨[], _, rfl, .sc h .nil, r⟩
  | tup h a r => exact ⟨_, _, rfl, by simpa using RL.tup h a RL.nil, r⟩
  | frz h a r => exact ⟨[], _, rfl, .frz h a .nil, r⟩
  | lstS h a r => exact ⟨[], _, rfl, .lstS h a .nil, r⟩
  | @lstO a xs es A vs ds B h q r => exact ⟨a :: A, B, by simp, by simpa using RL.lstO h q RL.nil, r⟩
  | dctS h hk a r => exact ⟨[], _, rfl, .dctS h hk a .nil, r⟩
  | objS hc h hk a r => exact ⟨[], _, rfl, .objS hc h hk a .nil, r⟩
  | @obj a C dx fs c ns es A vs ds B hc h hk q r => exact ⟨a :: A, B, by simp, by simpa using RL.obj hc h hk q RL.nil, r⟩
  | exo h r => exact ⟨[], _, rfl, .exo h .nil, r⟩
  | @dct a kvs ks es A vs ds B h hk q r => exact ⟨a :: A, B, by simp, by simpa using RL.dct h hk q RL.nil, r⟩
  | dead r => exact ⟨[], _, rfl, .dead .nil, r⟩
theorem RL.cons (r : RL K Hs H [v] [d] A) (q : RL K Hs H vs ds B) : RL K Hs H (v :: vs) (d :: ds) (A ++ B) := r.app q
/-- an item of shared ones -/
theorem RL.at : ∀ {vs : List V} {ds : List D} {A : List Addr} {i : Nat} {d : D}, RL K Hs H vs ds A → ds[i]? = some d → ∃ v B, vs[i]? = some v ∧ RL K Hs H [v] [d] B ∧ ∀ a, B.count a ≤ A.count a
  | _, [], _, i, d, _, h => by simp at h
  | [], _ :: _, _, i, d, r, _ => by cases r
  | v :: vs, e :: ds, A, 0, d, r, h => by
    simp at h; subst h
    obtain ⟨B, C, rfl, r1, r2⟩ := RL.un r
    exact ⟨v, B, rfl, r1, fun a => by rw [List.count_append]; omega⟩
  | v :: vs, e :: ds, A, i + 1, d, r, h => by
    obtain ⟨B, C, rfl, r1, r2⟩ := RL.un r
    obtain ⟨u, B', e1, e2, e3⟩ := RL.at (i := i) (d := d) r2 (by simpa using h)
    exact ⟨u, B', by simpa using e1, e2, fun a => by have := e3 a; rw [List.count_append]; omega⟩
theorem nil_of_count {A : List Addr} (h : ∀ a, A.count a ≤ ([] : List Addr).count a) : A = [] := by
  cases A with
  | nil => rfl
  | cons a r => have := h a; simp at this
theorem RL.at0 {i : Nat} (r : RL K Hs H vs ds []) (h : ds[i]? = some d) : ∃ v, vs[i]? = some v ∧ RL K Hs H [v] [d] [] := by
  obtain ⟨v, B, e, q, c⟩ := r.at h
  rw [nil_of_count c] at q
  exact ⟨v, e, q⟩
/-- owned things that are not of the moved ones -/
theorem RL.go (r : RL K Hs H vs ds B) (g : Go Hs H A Hs' H' A') (n : ∀ a, 0 < B.count a → A.count a = 0) : RL K Hs' H' vs ds B := r.mono g.hs fun a o c h => g.keep a o h (n a c)
theorem RL.has (r : RL K Hs H vs ds A) : ∀ a, 0 < A.count a → H a ≠ none := by
  induction r with
  | nil => intro a c; simp at c
  | sc _ _ ih => exact ih
  | @tup b xs es A vs ds B _ _ _ i1 i2 =>
    intro a c
    rw [List.count_append] at c
    by_cases q : 0 < A.count a
    · exact i1 a q
    · exact i2 a (by omega)
  | frz _ _ _ _ i2 => exact i2
  | lstS _ _ _ _ i2 => exact i2
  | dctS _ _ _ _ _ i2 => exact i2
  | objS _ _ _ _ _ _ i2 => exact i2
  | @obj b C dx fs c ns es A vs ds B hc h hk _ _ i1 i2 =>
    intro a c
    rw [List.count_cons, List.count_append] at c
    by_cases e : b = a
    · subst e; rw [h]; simp
    · have : (b == a) = false := by simpa using e
      rw [this] at c
      by_cases q : 0 < A.count a
      · exact i1 a q
      · exact i2 a (by simp at c; omega)
  | exo _ _ ih => exact ih
  | @lstO b xs es A vs ds B h _ _ i1 i2 =>
    intro a c
    rw [List.count_cons, List.count_append] at c
    by_cases e : b = a
    · subst e; rw [h]; simp
    · have : (b == a) = false := by simpa using e
      rw [this] at c
      by_cases q : 0 < A.count a
      · exact i1 a q
      · exact i2 a (by simp at c; omega)
  | @dct b kvs ks es A vs ds B h hk _ _ i1 i2 =>
    intro a c
    rw [List.count_cons, List.count_append] at c
    by_cases e : b = a
    · subst e; rw [h]; simp
    · have : (b == a) = false := by simpa using e
      rw [this] at c
      by_cases q : 0 < A.count a
      · exact i1 a q
      · exact i2 a (by simp at c; omega)
  | dead _ ih => exact ih
theorem RL.dead0 (r : RL K Hs H [v] [.dead] A) : A = [] := by
  cases r with
  | sc h r => cases v <;> simp [scD] at h
  | dead r => cases r; rfl
theorem ER.mono {σ : L2.St} {env : List D} (r : ER K Hs H σ env A) (e : ∀ a o, Hs a = some o → Hs' a = some o) (k : ∀ a o, 0 < A.count a → H a = some o → H' a = some o) : ER K Hs' H' σ env A := by
  induction r with
  | nil => exact .nil
  | dead _ ih => exact .dead (ih k)
  | cons h _ ih => exact .cons (h.mono e fun a o c => k a o (by rw [List.count_append]; omega)) (ih fun a o c => k a o (by rw [List.count_append]; omega))
theorem ER.length {σ : L2.St} {env : List D} (r : ER K Hs H σ env A) : σ.length = env.length := by
  induction r <;> simp_all
/-- the slot i: its value, what it owns, and the rest without it -/
theorem ER.at : ∀ {σ : L2.St} {env : List D} {A : List Addr} {i : Nat} {d : D}, ER K Hs H σ env A → env[i]? = some d → d ≠ .dead →
    ∃ v B A', σ[i]? = some (some v) ∧ RL K Hs H [v] [d] B ∧ ER K Hs H σ (env.set i .dead) A' ∧ ∀ a, A.count a = B.count a + A'.count a
  | _, [], _, i, d, _, h, _ => by simp at h
  | [], _ :: _, _, i, d, r, _, _ => by cases r
  | x :: σ, e :: env, A, 0, d, r, h, n => by
    simp at h; subst h
    cases r with
    | dead r => exact absurd rfl n
    | cons q r => exact ⟨_, _, _, rfl, q, .dead r, fun a => by rw [List.count_append]⟩
  | x :: σ, e :: env, A, i + 1, d, r, h, n => by
    cases r with
    | dead r =>
      obtain ⟨v, B, A', e1, e2, e3, e4⟩ := ER.at (i := i) (d := d) r (by simpa using h) n
      exact ⟨v, B, A', by simpa using e1, e2, .dead e3, e4⟩
    | cons q r =>
      obtain ⟨v, B, A', e1, e2, e3, e4⟩ := ER.at (i := i) (d := d) r (by simpa using h) n
      exact ⟨v, B, _, by simpa using e1, e2, .cons q e3, fun a => by have := e4 a; rw [List.count_append, List.count_append]; omega⟩
/-- a slot is filled -/
theorem ER.put : ∀ {σ : L2.St} {env : List D} {A : List Addr} {i : Nat}, ER K Hs H σ env A → RL K Hs H [v] [d] B → i < env.length →
    ∃ A', ER K Hs H (σ.set i (some v)) (env.set i d) A' ∧ ∀ a, A'.count a ≤ B.count a + A.count a
  | _, [], _, i, _, _, h => by simp at h
  | [], _ :: _, _, i, r, _, _ => by cases r
  | x :: σ, e :: env, A, 0, r, q, _ => by
    cases r with
    | dead r => exact ⟨_, .cons q r, fun a => by rw [List.count_append]; omega⟩
    | cons q' r => exact ⟨_, .cons q r, fun a => by rw [List.count_append, List.count_append]; omega⟩
  | x :: σ, e :: env, A, i + 1, r, q, h => by
    cases r with
    | dead r =>
      obtain ⟨A', e1, e2⟩ := ER.put (i := i) r q (by simpa using h)
      exact ⟨A', .dead e1, e2⟩
    | cons q' r =>
      obtain ⟨A', e1, e2⟩ := ER.put (i := i) r q (by simpa using h)
      exact ⟨_, .cons q' e1, fun a => by have := e2 a; rw [List.count_append, List.count_append]; omega⟩
/-- a slot is given back what it holds by its own value -/
theorem ER.give : ∀ {σ : L2.St} {env : List D} {A : List Addr} {i : Nat}, ER K Hs H σ (env.set i .dead) A → RL K Hs H [v] [d] B → σ[i]? = some (some v) → i < env.length →
    ∃ A', ER K Hs H σ (env.set i d) A' ∧ ∀ a, A'.count a = B.count a + A.count a
  | _, [], _, i, _, _, _, h => by simp at h
  | [], _ :: _, _, i, r, _, h, _ => by simp at h
  | x :: σ, e :: env, A, 0, r, q, h, _ => by
    simp at h; subst h
    cases r with
    | dead r => exact ⟨_, .cons q r, fun a => by rw [List.count_append]⟩
    | cons q' r => rw [q'.dead0]; exact ⟨_, .cons q r, fun a => by rw [List.count_append]; simp⟩
  | x :: σ, e :: env, A, i + 1, r, q, h, hl => by
    rw [List.set_cons_succ] at r
    cases r with
    | dead r =>
      obtain ⟨A', e1, e2⟩ := ER.give (i := i) r q (by simpa using h) (by simpa using hl)
      exact ⟨A', .dead e1, e2⟩
    | cons q' r =>
      obtain ⟨A', e1, e2⟩ := ER.give (i := i) r q (by simpa using h) (by simpa using hl)
      exact ⟨_, .cons q' e1, fun a => by have := e2 a; rw [List.count_append, List.count_append]; omega⟩
end
end Fl
namespace Fl
open PySem PySem.Spec PyProof.Rows L2
abbrev Env := List D
inductive Res (α : Type) where
  | no | ok (a : α) | ex (x : D) (env : Env)
def Res.bind {α β : Type} (r : Res α) (f : α → Res β) : Res β := match r with
  | .no => .no
  | .ok a => f a
  | .ex x e => .ex x e
@[simp] theorem Res.bind_ok {α β : Type} (a : α) (f : α → Res β) : (Res.ok a).bind f = f a := rfl
@[simp] theorem Res.bind_no {α β : Type} (f : α → Res β) : (Res.no : Res α).bind f = .no := rfl
@[simp] theorem Res.bind_ex {α β : Type} (x : D) (e : Env) (f : α → Res β) : (Res.ex x e : Res α).bind f = .ex x e := rfl
abbrev Exp := Env → Res (D × Env)
abbrev Tst := Env → Res (Bool × Env)
abbrev Arg := Env → Res (List D × Env)
/-- what is wished of an exception, and how it lies -/
structure Wh where
  on : Prop
  XR : Hp → Hp → D → Value → Option Addr → List Addr → Prop
  W : WX
def ExO (K : PySem.W.Frag) (W : Wh) (σ : L2.St) (F : List Addr) (Hs H : Hp) (A : List Addr) (x : D) (env' : Env) : Prop :=
  W.on ∧ ∀ c od Hs' H' B A', W.XR Hs' H' x c od B → ER K Hs' H' σ env' A' → Ok Hs' H' (B ++ (F ++ A')) → Go Hs H A Hs' H' (B ++ A') → W.W c od σ H'
/-- an expression's reading follows m -/
def PostE (K : PySem.W.Frag) (W : Wh) (t : TE) (σ : L2.St) (F : List Addr) (Hs H : Hp) (A : List Addr) : Res (D × Env) → Prop
  | .no => True
  | .ok p => ∀ Q : VK, (∀ v Hs' H' B A', RL K Hs' H' [v] [p.1] B → ER K Hs' H' σ p.2 A' → Ok Hs' H' (B ++ (F ++ A')) → Go Hs H A Hs' H' (B ++ A') → Q v H') → t σ H Q
  | .ex x env' => ExO K W σ F Hs H A x env' → ∀ Q : VK, t σ H Q
def PostB (K : PySem.W.Frag) (W : Wh) (t : TT) (σ : L2.St) (F : List Addr) (Hs H : Hp) (A : List Addr) : Res (Bool × Env) → Prop
  | .no => True
  | .ok p => ∀ Q : Bool → Hp → Prop, (∀ Hs' H' A', ER K Hs' H' σ p.2 A' → Ok Hs' H' (F ++ A') → Go Hs H A Hs' H' A' → Q p.1 H') → t σ H Q
  | .ex x env' => ExO K W σ F Hs H A x env' → ∀ Q : Bool → Hp → Prop, t σ H Q
def PostA (K : PySem.W.Frag) (W : Wh) (t : TA) (σ : L2.St) (F : List Addr) (Hs H : Hp) (A : List Addr) : Res (List D × Env) → Prop
  | .no => True
  | .ok p => ∀ Q : List V → Hp → Prop, (∀ vs Hs' H' B A', RL K Hs' H' vs p.1 B → ER K Hs' H' σ p.2 A' → Ok Hs' H' (B ++ (F ++ A')) → Go Hs H A Hs' H' (B ++ A') → Q vs H') → t σ H Q
  | .ex x env' => ExO K W σ F Hs H A x env' → ∀ Q : List V → Hp → Prop, t σ H Q
def EvI (K : PySem.W.Frag) (W : Wh) (t : TE) (m : Exp) : Prop := ∀ σ env F Hs H A, ER K Hs H σ env A → Ok Hs H (F ++ A) → PostE K W t σ F Hs H A (m env)
def EvB (K : PySem.W.Frag) (W : Wh) (t : TT) (m : Tst) : Prop := ∀ σ env F Hs H A, ER K Hs H σ env A → Ok Hs H (F ++ A) → PostB K W t σ F Hs H A (m env)
def EvA (K : PySem.W.Frag) (W : Wh) (t : TA) (m : Arg) : Prop := ∀ σ env F Hs H A, ER K Hs H σ env A → Ok Hs H (F ++ A) → PostA K W t σ F Hs H A (m env)
section
variable {K : PySem.W.Frag} {W : Wh} {σ : L2.St} {env env' : Env} {F A A' B C : List Addr} {Hs H Hs' H' Hs'' H'' : Hp} {t ta tb : TE} {m ma mb : Exp} {d d1 d2 : D} {v : V}
theorem Ok.less (o : Ok Hs H A) (h : ∀ a, B.count a ≤ A.count a) : Ok Hs H B :=
  ⟨o.sub, fun a => Nat.le_trans (h a) (o.nd a), fun a c => o.off a (Nat.lt_of_lt_of_le c (h a)), fun a c => o.has a (Nat.lt_of_lt_of_le c (h a))⟩
theorem Ok.nil (o : Ok Hs H A) : Ok Hs H [] := o.less fun a => by simp
/-- how EvI is used -/
theorem EvI.ok (e : EvI K W t m) (r : ER K Hs H σ env A) (o : Ok Hs H (F ++ A)) (h : m env = .ok (d, env')) {Q : VK}
    (k : ∀ v Hs' H' B A', RL K Hs' H' [v] [d] B → ER K Hs' H' σ env' A' → Ok Hs' H' (B ++ (F ++ A')) → Go Hs H A Hs' H' (B ++ A') → Q v H') : t σ H Q := by
  have := e σ env F Hs H A r o
  rw [h] at this
  exact this Q k
theorem EvI.ex (e : EvI K W t m) (r : ER K Hs H σ env A) (o : Ok Hs H (F ++ A)) {x : D} (h : m env = .ex x env') (k : ExO K W σ F Hs H A x env') (Q : VK) : t σ H Q := by
  have := e σ env F Hs H A r o
  rw [h] at this
  exact this k Q
theorem EvB.ok {t : TT} {m : Tst} {b : Bool} (e : EvB K W t m) (r : ER K Hs H σ env A) (o : Ok Hs H (F ++ A)) (h : m env = .ok (b, env')) {Q : Bool → Hp → Prop}
    (k : ∀ Hs' H' A', ER K Hs' H' σ env' A' → Ok Hs' H' (F ++ A') → Go Hs H A Hs' H' A' → Q b H') : t σ H Q := by
  have := e σ env F Hs H A r o
  rw [h] at this
  exact this Q k
theorem EvB.ex {t : TT} {m : Tst} (e : EvB K W t m) (r : ER K Hs H σ env A) (o : Ok Hs H (F ++ A)) {x : D} (h : m env = .ex x env') (k : ExO K W σ F Hs H A x env') (Q : Bool → Hp → Prop) : t σ H Q := by
  have := e σ env F Hs H A r o
  rw [h] at this
  exact this k Q
theorem EvA.ok {t : TA} {m : Arg} {ds : List D} (e : EvA K W t m) (r : ER K Hs H σ env A) (o : Ok Hs H (F ++ A)) (h : m env = .ok (ds, env')) {Q : List V → Hp → Prop}
    (k : ∀ vs Hs' H' B A', RL K Hs' H' vs ds B → ER K Hs' H' σ env' A' → Ok Hs' H' (B ++ (F ++ A')) → Go Hs H A Hs' H' (B ++ A') → Q vs H') : t σ H Q := by
  have := e σ env F Hs H A r o
  rw [h] at this
  exact this Q k
theorem EvA.ex {t : TA} {m : Arg} (e : EvA K W t m) (r : ER K Hs H σ env A) (o : Ok Hs H (F ++ A)) {x : D} (h : m env = .ex x env') (k : ExO K W σ F Hs H A x env') (Q : List V → Hp → Prop) : t σ H Q := by
  have := e σ env F Hs H A r o
  rw [h] at this
  exact this k Q
/-- an exception of a later part is one of the whole -/
theorem ExO.after {x : D} (k : ExO K W σ F Hs H A x env') (g : Go Hs H A Hs' H' (B ++ A')) : ExO K W σ (B ++ F) Hs' H' A' x env' := ⟨k.1, fun c od Hs2 H2 B2 A2 xr r o g2 =>
  k.2 c od Hs2 H2 B2 A2 xr r (o.less fun a => by simp only [List.count_append]; omega) (g.trans ((g2.frame (F := B)).less fun a c => by simp only [List.count_append] at c ⊢; omega))⟩
theorem ExO.after0 {x : D} (k : ExO K W σ F Hs H A x env') (g : Go Hs H A Hs' H' A') : ExO K W σ F Hs' H' A' x env' := ⟨k.1, fun c od Hs2 H2 B2 A2 xr r o g2 =>
  k.2 c od Hs2 H2 B2 A2 xr r o (g.trans g2)⟩
mutual
def own : D → Bool
  | .tup ds => ownL ds
  | .lst true _ => true
  | .lst false _ => false
  | .dct o _ _ => o
  | .obj o _ _ _ => o
  | _ => false
def ownL : List D → Bool
  | [] => false
  | d :: ds => own d || ownL ds
end
mutual
def sh : D → D
  | .tup ds => .tup (shL ds)
  | .lst _ ds => .lst false (shL ds)
  | .frz ds => .frz (shL ds)
  | .dct _ ks ds => .dct false ks (shL ds)
  | .obj _ c ns ds => .obj false c ns (shL ds)
  | d => d
def shL : List D → List D
  | [] => []
  | d :: ds => sh d :: shL ds
end
theorem RL.own0 {vs : List V} {ds : List D} (r : RL K Hs H vs ds A) : ownL ds = false → A = [] := by
  induction r with
  | nil => intro _; rfl
  | sc h _ ih => intro e; simp [ownL] at e; exact ih e.2
  | tup h _ _ i1 i2 =>
    intro e; simp [ownL, own] at e
    rw [i1 e.1, i2 e.2]; rfl
  | frz h _ _ i1 i2 => intro e; simp [ownL, own] at e; exact i2 e
  | lstS h _ _ i1 i2 => intro e; simp [ownL, own] at e; exact i2 e
  | lstO h _ _ i1 i2 => intro e; simp [ownL, own] at e
  | dctS h hk _ _ i1 i2 => intro e; simp [ownL, own] at e; exact i2 e
  | objS hc h hk _ _ i1 i2 => intro e; simp [ownL, own] at e; exact i2 e
  | obj hc h hk _ _ i1 i2 => intro e; simp [ownL, own] at e
  | exo h _ ih => intro e; simp [ownL, own] at e; exact ih e
  | dct h hk _ _ i1 i2 => intro e; simp [ownL, own] at e
  | dead _ ih => intro e; simp [ownL, own] at e; exact ih e
theorem RL.share {vs : List V} {ds : List D} (r : RL K Hs H vs ds A) : (∀ a o, Hs a = some o → Hs' a = some o) → (∀ a, 0 < A.count a → Hs' a = H a) → RL K Hs' H vs (shL ds) [] := by
  induction r with
  | nil => intro _ _; exact .nil
  | @sc v d vs ds B h _ ih =>
    intro e k
    have : sh d = d := by cases v <;> simp [scD] at h <;> subst h <;> rfl
    show RL K Hs' H _ (sh d :: shL ds) []
    rw [this]
    exact .sc h (ih e k)
  | tup h _ _ i1 i2 =>
    intro e k
    exact RL.tup (A := []) (ext_t e h) (i1 e fun a c => k a (by rw [List.count_append]; omega)) (i2 e fun a c => k a (by rw [List.count_append]; omega))
  | frz h _ _ i1 i2 =>
    intro e k
    exact .frz (ext_l e h) (i1 e fun a c => by simp at c) (i2 e k)
  | lstS h _ _ i1 i2 =>
    intro e k
    exact .lstS (e _ _ h) (i1 e fun a c => by simp at c) (i2 e k)
  | @lstO a xs es A vs ds B h _ _ i1 i2 =>
    intro e k
    refine .lstS ?_ (i1 e fun a c => k a (by rw [List.count_cons, List.count_append]; omega)) (i2 e fun a c => k a (by rw [List.count_cons, List.count_append]; omega))
    rw [k a (by simp), h]
  | @exo a c l vs ds B h _ ih =>
    intro e k
    show RL K Hs' H _ (.exo c l :: shL ds) []
    exact .exo (h.mono e) (ih e k)
  | dctS h hk _ _ i1 i2 =>
    intro e k
    exact .dctS (e _ _ h) hk (i1 e fun a c => by simp at c) (i2 e k)
  | objS hc h hk _ _ i1 i2 =>
    intro e k
    exact .objS hc (e _ _ h) hk (i1 e fun a c => by simp at c) (i2 e k)
  | obj hc h hk _ _ i1 i2 =>
    intro e k
    exact .objS hc ((k _ (by simp)).trans h) hk (i1 e fun a c => k a (by rw [List.count_cons, List.count_append]; omega)) (i2 e fun a c => k a (by rw [List.count_cons, List.count_append]; omega))
  | dct h hk _ _ i1 i2 =>
    intro e k
    refine .dctS ?_ hk (i1 e fun a c => k a (by rw [List.count_cons, List.count_append]; omega)) (i2 e fun a c => k a (by rw [List.count_cons, List.count_append]; omega))
    rw [k _ (by simp), h]
  | dead _ ih => intro e k; exact .dead (ih e k)
/-- the places B are shared from now on -/
def pool (Hs H : Hp) (B : List Addr) : Hp := fun a => if 0 < B.count a then H a else Hs a
theorem pool_in {a : Addr} (h : 0 < B.count a) : pool Hs H B a = H a := if_pos h
theorem pool_out {a : Addr} (h : B.count a = 0) : pool Hs H B a = Hs a := if_neg (by omega)
theorem pool_ext (o : Ok Hs H (B ++ C)) : ∀ a u, Hs a = some u → pool Hs H B a = some u := fun a u h => by
  by_cases c : 0 < B.count a
  · rw [o.off a (by rw [List.count_append]; omega)] at h; cases h
  · rw [pool_out (by omega)]; exact h
theorem Ok.pool (o : Ok Hs H (B ++ C)) : Ok (pool Hs H B) H C := by
  refine ⟨fun a u h => ?_, fun a => ?_, fun a c => ?_, fun a c => o.has a (by rw [List.count_append]; omega)⟩
  · by_cases c : 0 < B.count a
    · rw [pool_in c] at h; exact h
    · rw [pool_out (by omega)] at h; exact o.sub a u h
  · have := o.nd a; rw [List.count_append] at this; omega
  · have := o.nd a
    rw [List.count_append] at this
    rw [pool_out (by omega)]
    exact o.off a (by rw [List.count_append]; omega)
theorem Go.pool (g : Go Hs H A Hs' H' (B ++ A')) (o : Ok Hs' H' (B ++ C)) : Go Hs H A (pool Hs' H' B) H' A' := by
  refine ⟨fun a u h => pool_ext o a u (g.hs a u h), g.keep, fun a u h n => ?_, fun a c => g.own a (by rw [List.count_append]; omega)⟩
  by_cases c : 0 < B.count a
  · exact g.own a (by rw [List.count_append]; omega)
  · rw [pool_out (by omega)] at h
    exact g.back a u h n
theorem RL.share1 (r : RL K Hs H [v] [d] B) (o : Ok Hs H (B ++ C)) : RL K (pool Hs H B) H [v] [sh d] [] := r.share (pool_ext o) fun a c => pool_in c
theorem RL.shareL {vs : List V} {ds : List D} (r : RL K Hs H vs ds B) (o : Ok Hs H (B ++ C)) : RL K (pool Hs H B) H vs (shL ds) [] := r.share (pool_ext o) fun a c => pool_in c
theorem ER.pool (r : ER K Hs H σ env A) (o : Ok Hs H (B ++ C)) : ER K (pool Hs H B) H σ env A := r.mono (pool_ext o) fun a u _ h => h
def eC (d : D) : Exp := fun env => .ok (d, env)
def isDead : D → Bool
  | .dead => true
  | _ => false
theorem not_dead {d : D} (h : isDead d = false) : d ≠ .dead := fun e => by subst e; simp [isDead] at h
def eV (i : Nat) : Exp := fun env => match env[i]? with
  | some d => if isDead d then .no else if own d then .ok (sh d, env.set i (sh d)) else .ok (d, env)
  | none => .no
/-- the last use of a name -/
def eM (i : Nat) : Exp := fun env => match env[i]? with
  | some d => if isDead d then .no else .ok (d, env.set i .dead)
  | none => .no
theorem ev_c {v : V} (h : scD v = some d) : EvI K W (tC v) (eC d) := fun σ env F Hs H A r o Q k => k v Hs H [] A (.sc h .nil) r (by simpa using o) (by simpa using Go.refl)
theorem ER.same (r : ER K Hs H σ env A) {i : Nat} (h : env[i]? = some d) : env.set i d = env := by
  apply List.ext_getElem?
  intro j
  by_cases e : i = j
  · subst e
    rw [List.getElem?_set_self (List.getElem?_eq_some_iff.mp h).1, h]
  · rw [List.getElem?_set_ne e]
theorem ev_v {i : Nat} : EvI K W (tVar i) (eV i) := by
  intro σ env F Hs H A r o
  unfold eV
  cases h : env[i]? with
  | none => trivial
  | some d =>
    dsimp only
    cases hd : isDead d with
    | true => trivial
    | false =>
    simp only [Bool.false_eq_true, if_false]
    obtain ⟨v, B, A1, e1, e2, e3, e4⟩ := r.at h (not_dead hd)
    have hlt := (List.getElem?_eq_some_iff.mp h).1
    cases hw : own d with
    | true =>
      intro Q k
      have o1 : Ok Hs H (B ++ (F ++ A1)) := o.less fun a => by have := e4 a; simp only [List.count_append]; omega
      have s1 := e2.share1 o1
      obtain ⟨A2, p1, p2⟩ := ER.give (e3.pool o1) s1 e1 hlt
      refine ⟨v, e1, k v _ _ [] A2 s1 p1 (o1.pool.less fun a => by have := p2 a; simp only [List.count_append, List.count_nil] at *; omega) ?_⟩
      have g : Go Hs H A Hs H (B ++ A1) := Go.refl.less fun a c => by have := e4 a; rw [List.count_append] at c; omega
      exact (g.pool o1).less fun a c => by have := p2 a; simp only [List.nil_append, List.count_nil] at *; omega
    | false =>
      intro Q k
      have : B = [] := e2.own0 (by simp [ownL, hw])
      subst this
      exact ⟨v, e1, k v _ _ [] A e2 r (by simpa using o) (by simpa using Go.refl)⟩
theorem ev_m {i : Nat} : EvI K W (tVar i) (eM i) := by
  intro σ env F Hs H A r o
  unfold eM
  cases h : env[i]? with
  | none => trivial
  | some d =>
    dsimp only
    cases hd : isDead d with
    | true => trivial
    | false =>
    simp only [Bool.false_eq_true, if_false]
    obtain ⟨v, B, A1, e1, e2, e3, e4⟩ := r.at h (not_dead hd)
    intro Q k
    exact ⟨v, e1, k v _ _ B A1 e2 e3 (o.less fun a => by have := e4 a; simp only [List.count_append]; omega) (Go.refl.less fun a c => by have := e4 a; rw [List.count_append] at c; omega)⟩
theorem EvI.two {env1 env2 : Env} (ea : EvI K W ta ma) (eb : EvI K W tb mb) (r : ER K Hs H σ env A) (o : Ok Hs H (F ++ A)) (h1 : ma env = .ok (d1, env1)) (h2 : mb env1 = .ok (d2, env2)) {R : V → V → Hp → Prop}
    (k : ∀ x y Hs' H' B1 B2 A', RL K Hs' H' [x] [d1] B1 → RL K Hs' H' [y] [d2] B2 → ER K Hs' H' σ env2 A' → Ok Hs' H' (B2 ++ ((B1 ++ F) ++ A')) → Go Hs H A Hs' H' (B2 ++ (B1 ++ A')) → R x y H') :
    ta σ H fun x H1 => tb σ H1 fun y H2 => R x y H2 := by
  refine ea.ok r o h1 fun x Hs1 H1 B1 A1 rx r1 o1 g1 => ?_
  refine eb.ok (F := B1 ++ F) r1 (o1.less fun a => by simp only [List.count_append]; omega) h2 fun y Hs2 H2 B2 A2 ry r2 o2 g2 => ?_
  refine k x y Hs2 H2 B1 B2 A2 (rx.go g2 fun a c => ?_) ry r2 o2 ?_
  · have := o1.nd a; simp only [List.count_append] at this; omega
  · exact g1.trans ((g2.frame (F := B1)).less fun a c => by simp only [List.count_append] at c ⊢; omega)
theorem EvI.two_ex2 {x : D} {env1 : Env} (ea : EvI K W ta ma) (eb : EvI K W tb mb) (r : ER K Hs H σ env A) (o : Ok Hs H (F ++ A)) (h1 : ma env = .ok (d1, env1)) (h2 : mb env1 = .ex x env') (k : ExO K W σ F Hs H A x env') {R : V → V → Hp → Prop} :
    ta σ H fun x H1 => tb σ H1 fun y H2 => R x y H2 := by
  refine ea.ok r o h1 fun x Hs1 H1 B1 A1 rx r1 o1 g1 => ?_
  exact eb.ex (F := B1 ++ F) r1 (o1.less fun a => by simp only [List.count_append]; omega) h2 (k.after g1) _
/-- a two-place operation on values whose answer is a scalar: it lays nothing -/
def eBin (f : D → D → Option D) (ma mb : Exp) : Exp := fun env => (ma env).bind fun p => (mb p.2).bind fun q => match f p.1 q.1 with
  | some d => .ok (d, q.2)
  | none => .no
def OpS (K : PySem.W.Frag) (r : R2) (f : D → D → Option D) : Prop := ∀ Hs H x y d1 d2 B1 B2 d, (∀ a o, Hs a = some o → H a = some o) → RL K Hs H [x] [d1] B1 → RL K Hs H [y] [d2] B2 → f d1 d2 = some d → ∃ v, scD v = some d ∧ ∀ Q : VK, Q v H → r x y H Q
theorem ev_bin {r : R2} {f : D → D → Option D} (hr : OpS K r f) (ea : EvI K W ta ma) (eb : EvI K W tb mb) : EvI K W (tOp r ta tb) (eBin f ma mb) := by
  intro σ env F Hs H A rr o
  unfold eBin
  cases h1 : ma env with
  | no => trivial
  | ex x e => exact fun k Q => ea.ex rr o h1 k _
  | ok p =>
    obtain ⟨d1, env1⟩ := p
    simp only [Res.bind_ok]
    cases h2 : mb env1 with
    | no => trivial
    | ex x e => exact fun k Q => EvI.two_ex2 ea eb rr o h1 h2 k
    | ok q =>
      obtain ⟨d2, env2⟩ := q
      simp only [Res.bind_ok]
      cases h3 : f d1 d2 with
      | none => trivial
      | some d =>
        intro Q k
        refine EvI.two ea eb rr o h1 h2 fun x y Hs2 H2 B1 B2 A2 rx ry r2 o2 g2 => ?_
        obtain ⟨v, hv, q⟩ := hr Hs2 H2 x y d1 d2 B1 B2 d o2.sub rx ry h3
        exact q Q (k v Hs2 H2 [] A2 (.sc hv .nil) r2 (o2.less fun a => by simp only [List.count_append, List.count_nil]; omega) (g2.less fun a c => by simp only [List.count_append, List.count_nil] at c ⊢; omega))
def eUn (f : D → Option D) (ma : Exp) : Exp := fun env => (ma env).bind fun p => match f p.1 with
  | some d => .ok (d, p.2)
  | none => .no
def UnS (K : PySem.W.Frag) (r : V → Hp → VK → Prop) (f : D → Option D) : Prop := ∀ Hs H x d1 B1 d, (∀ a o, Hs a = some o → H a = some o) → RL K Hs H [x] [d1] B1 → f d1 = some d → ∃ v, scD v = some d ∧ ∀ Q : VK, Q v H → r x H Q
theorem ev_un {r : V → Hp → VK → Prop} {f : D → Option D} (hr : UnS K r f) (ea : EvI K W ta ma) : EvI K W (tUn r ta) (eUn f ma) := by
  intro σ env F Hs H A rr o
  unfold eUn
  cases h1 : ma env with
  | no => trivial
  | ex x e => exact fun k Q => ea.ex rr o h1 k _
  | ok p =>
    obtain ⟨d1, env1⟩ := p
    simp only [Res.bind_ok]
    cases h3 : f d1 with
    | none => trivial
    | some d =>
      intro Q k
      refine ea.ok rr o h1 fun x Hs2 H2 B1 A2 rx r2 o2 g2 => ?_
      obtain ⟨v, hv, q⟩ := hr Hs2 H2 x d1 B1 d o2.sub rx h3
      exact q Q (k v Hs2 H2 [] A2 (.sc hv .nil) r2 (o2.less fun a => by simp only [List.count_append, List.count_nil]; omega) (g2.less fun a c => by simp only [List.count_append, List.count_nil] at c ⊢; omega))
theorem RL.int {x : V} {i : Int} (r : RL K Hs H [x] [.int i] B) : x = .int i := by
  cases r with
  | sc h _ => cases x <;> simp [scD] at h; rw [h]
theorem RL.bl {x : V} {i : Bool} (r : RL K Hs H [x] [.bl i] B) : x = .bl i := by
  cases r with
  | sc h _ => cases x <;> simp [scD] at h; rw [h]
theorem RL.strv {x : V} {i : Str} (r : RL K Hs H [x] [.str i] B) : x = .str i := by
  cases r with
  | sc h _ => cases x <;> simp [scD] at h; rw [h]
theorem RL.non {x : V} (r : RL K Hs H [x] [.non] B) : x = .non := by
  cases r with
  | sc h _ => cases x <;> simp [scD] at h; rfl
def iI (f : Int → Int → Option D) : D → D → Option D
  | .int i, .int j => f i j
  | _, _ => none
theorem ii_inv {f : Int → Int → Option D} {d1 d2 d : D} (h : iI f d1 d2 = some d) : ∃ i j, d1 = .int i ∧ d2 = .int j ∧ f i j = some d := by
  cases d1 <;> cases d2 <;> simp [iI] at h
  exact ⟨_, _, rfl, rfl, h⟩
def fSub := iI fun i j => some (.int (i - j))
/-- what a division of great numbers wants -/
structure Py (P : Program) (base : Heap) (d : Nat) (st : List PySem.Env) : Prop where
  dp : d + 100 < recursionLimit
  tr : P.given.tree = none
  sr : base.NoSeer
  st : ∃ env l, st = env :: l ∧ env.scope.isGenerator = false ∧ env.scope.isCoroutine = false ∧ env.builtins = builtinsNs ∧ env.globals = mainGlobals
def CDivG (_ j : Int) : Prop := j ≠ 0
theorem op_fdivG {X : Cx} (py : Py X.prog X.base X.A.depth X.stack) : OpR X (binaryOp .FloorDiv) (rI CDivG fun i j => .int (i.fdiv j)) := by
  intro pins s σ H x y v u Q I rx ry h
  obtain ⟨i, j, rfl, rfl, hc, q⟩ := h
  obtain ⟨t, rfl⟩ := rx
  obtain ⟨t', rfl⟩ := ry
  obtain ⟨env, l, hst, h1, h2, h3, h4⟩ := py.st
  refine floordiv_int hc ⟨.int (i.fdiv j), H, I.tok _, ⟨_, rfl⟩, q⟩ (.inr (PylongRoom.of I.nolimit py.dp (SeerAt.of (py.sr.keeps I.bk) py.tr (I.ok.frames.trans (congrArg some hst)) h1 h2 h3 h4)))
def fDiv := iI fun i j => if j ≠ 0 then some (.int (i.fdiv j)) else none
def fMod := iI fun i j => if j ≠ 0 then some (.int (i.fmod j)) else none
def fPow := iI fun i j => if 0 ≤ j ∧ j ≤ 1000000 ∧ i.natAbs < 2 ^ 64 then some (.int (i ^ j.toNat)) else none
def fLt := iI fun i j => some (.bl (decide (i < j)))
def fLe := iI fun i j => some (.bl (decide (i ≤ j)))
def fGt := iI fun i j => some (.bl (decide (j < i)))
def fGe := iI fun i j => some (.bl (decide (j ≤ i)))
theorem ops_I0 {g : Int → Int → V} {f : Int → Int → D} (h : ∀ i j, scD (g i j) = some (f i j)) : OpS K (rI0 g) (iI fun i j => some (f i j)) := by
  intro Hs H x y d1 d2 B1 B2 d _ rx ry e
  obtain ⟨i, j, rfl, rfl, e⟩ := ii_inv e
  have e' : f i j = d := Option.some.inj e
  subst e'
  exact ⟨g i j, h i j, fun Q q => ⟨i, j, rx.int, ry.int, q⟩⟩
theorem ops_I {C : Int → Int → Prop} [∀ i j, Decidable (C i j)] {g : Int → Int → V} {f : Int → Int → D} (h : ∀ i j, scD (g i j) = some (f i j)) : OpS K (rI C g) (iI fun i j => if C i j then some (f i j) else none) := by
  intro Hs H x y d1 d2 B1 B2 d _ rx ry e
  obtain ⟨i, j, rfl, rfl, e⟩ := ii_inv e
  replace e : (if C i j then some (f i j) else none) = some d := e
  by_cases c : C i j
  · rw [if_pos c] at e
    have e' : f i j = d := Option.some.inj e
    subst e'
    exact ⟨g i j, h i j, fun Q q => ⟨i, j, rx.int, ry.int, c, q⟩⟩
  · rw [if_neg c] at e; cases e
theorem os_sub : OpS K (rI0 fun i j => .int (i - j)) fSub := ops_I0 fun _ _ => rfl
instance (i j : Int) : Decidable (CMulW i j) := inferInstanceAs (Decidable (_ < _))
instance (i j : Int) : Decidable (CDivW i j) := inferInstanceAs (Decidable (_ ∧ _))
instance (i j : Int) : Decidable (CDivN i j) := inferInstanceAs (Decidable (_ ∧ _))
instance (i j : Int) : Decidable (CPow i j) := inferInstanceAs (Decidable (_ ∧ _ ∧ _))
instance (i j : Int) : Decidable (CDivG i j) := inferInstanceAs (Decidable (¬ _))
theorem os_div : OpS K (rI CDivG fun i j => .int (i.fdiv j)) fDiv := ops_I fun _ _ => rfl
theorem os_mod : OpS K (rI (fun _ j => j ≠ 0) fun i j => .int (i.fmod j)) fMod := ops_I fun _ _ => rfl
theorem os_pow : OpS K (rI CPow fun i j => .int (i ^ j.toNat)) fPow := ops_I fun _ _ => rfl
theorem os_lt : OpS K (rI0 fun i j => .bl (decide (i < j))) fLt := ops_I0 fun _ _ => rfl
theorem os_gt : OpS K (rI0 fun i j => .bl (decide (j < i))) fGt := ops_I0 fun _ _ => rfl
end
end Fl
namespace Fl
open PySem PySem.Spec PyProof.Rows L2
section
variable {K : PySem.W.Frag} {W : Wh} {σ : L2.St} {env env' : Env} {F A A' B C : List Addr} {Hs H Hs' H' Hs'' H'' : Hp} {t ta tb : TE} {m ma mb : Exp} {d d1 d2 : D} {v : V}
def aN : Arg := fun env => .ok ([], env)
def aC (m : Exp) (ms : Arg) : Arg := fun env => (m env).bind fun p => (ms p.2).bind fun q => .ok (p.1 :: q.1, q.2)
theorem ea_nil : EvA K W tNil aN := fun σ env F Hs H A r o Q k => k [] Hs H [] A .nil r (by simpa using o) (by simpa using Go.refl)
theorem ea_cons {tr : TA} {ms : Arg} (e : EvI K W t m) (es : EvA K W tr ms) : EvA K W (tCons t tr) (aC m ms) := by
  intro σ env F Hs H A r o
  unfold aC
  cases h1 : m env with
  | no => trivial
  | ex x e' => exact fun k Q => e.ex r o h1 k _
  | ok p =>
    obtain ⟨d1, env1⟩ := p
    simp only [Res.bind_ok]
    cases h2 : ms env1 with
    | no => trivial
    | ex x e' =>
      intro k Q
      refine e.ok r o h1 fun x Hs1 H1 B1 A1 rx r1 o1 g1 => ?_
      exact es.ex (F := B1 ++ F) r1 (o1.less fun a => by simp only [List.count_append]; omega) h2 (k.after g1) _
    | ok q =>
      obtain ⟨ds, env2⟩ := q
      intro Q k
      refine e.ok r o h1 fun x Hs1 H1 B1 A1 rx r1 o1 g1 => ?_
      refine es.ok (F := B1 ++ F) r1 (o1.less fun a => by simp only [List.count_append]; omega) h2 fun vs Hs2 H2 B2 A2 rs r2 o2 g2 => ?_
      refine k (x :: vs) Hs2 H2 (B1 ++ B2) A2 ((rx.go g2 fun a c => ?_).cons rs) r2 (o2.less fun a => by simp only [List.count_append]; omega) ?_
      · have := o1.nd a; simp only [List.count_append] at this; omega
      · exact g1.trans ((g2.frame (F := B1)).less fun a c => by simp only [List.count_append] at c ⊢; omega)
theorem upd_old {p a : Addr} {u o : HO} (n : H p = none) (h : H a = some o) : upd H p u a = some o := by rw [upd_ne (ne_of_none h n)]; exact h
theorem Ok.newS (o : Ok Hs H A) {p : Addr} (n : H p = none) (u : HO) : Ok (upd Hs p u) (upd H p u) A := by
  have np : ∀ a, 0 < A.count a → a ≠ p := fun a c e => o.has a c (e ▸ n)
  refine ⟨fun a w h => ?_, o.nd, fun a c => by rw [upd_ne (np a c)]; exact o.off a c, fun a c => by rw [upd_ne (np a c)]; exact o.has a c⟩
  by_cases e : a = p
  · subst e; rw [upd_same] at h ⊢; exact h
  · rw [upd_ne e] at h ⊢; exact o.sub a w h
theorem Ok.free (o : Ok Hs H A) {p : Addr} (n : H p = none) : Hs p = none := by
  rcases none_or (H := Hs) p with q | ⟨w, q⟩
  · exact q
  · rw [o.sub p w q] at n; cases n
theorem Go.newS (o : Ok Hs H C) {p : Addr} (n : H p = none) (u : HO) : Go Hs H A (upd Hs p u) (upd H p u) A := by
  refine ⟨fun a w h => upd_old (o.free n) h, fun a w h _ => upd_old n h, fun a w h k => ?_, fun a c => .inl c⟩
  by_cases e : a = p
  · subst e; exact .inr n
  · rw [upd_ne e, k] at h; cases h
theorem Ok.newO (o : Ok Hs H A) {p : Addr} (n : H p = none) (u : HO) : Ok Hs (upd H p u) (p :: A) := by
  have np : ∀ a, 0 < A.count a → a ≠ p := fun a c e => o.has a c (e ▸ n)
  have zp : A.count p = 0 := by
    rcases Nat.eq_zero_or_pos (A.count p) with q | q
    · exact q
    · exact absurd rfl (np p q)
  have cc : ∀ a, (p :: A).count a = A.count a + (if p = a then 1 else 0) := fun a => by rw [List.count_cons]; simp
  refine ⟨fun a w h => upd_old n (o.sub a w h), fun a => ?_, fun a c => ?_, fun a c => ?_⟩
  · rw [cc]
    by_cases e : p = a
    · subst e; rw [if_pos rfl]; omega
    · rw [if_neg e]; have := o.nd a; omega
  · rw [cc] at c
    by_cases e : p = a
    · subst e; exact o.free n
    · rw [if_neg e] at c; exact o.off a (by omega)
  · by_cases e : p = a
    · subst e; rw [upd_same]; simp
    · rw [cc, if_neg e] at c
      rw [upd_ne (Ne.symm e)]; exact o.has a (by omega)
theorem Go.newO {p : Addr} (n : H p = none) (u : HO) : Go Hs H A Hs (upd H p u) (p :: A) := by
  refine ⟨fun a w h => h, fun a w h _ => upd_old n h, fun a w h k => (by rw [k] at h; cases h), fun a c => ?_⟩
  by_cases e : p = a
  · subst e; exact .inr n
  · rw [List.count_cons, show (p == a) = false by simpa using e] at c
    exact .inl (by simpa using c)
theorem RL.newS {vs : List V} {ds : List D} (r : RL K Hs H vs ds B) (o : Ok Hs H C) {p : Addr} (n : H p = none) (u : HO) : RL K (upd Hs p u) (upd H p u) vs ds B :=
  r.mono (fun a w h => upd_old (o.free n) h) fun a w _ h => upd_old n h
theorem RL.newO {vs : List V} {ds : List D} (r : RL K Hs H vs ds B) {p : Addr} (n : H p = none) (u : HO) : RL K Hs (upd H p u) vs ds B := r.mono (fun a w h => h) fun a w _ h => upd_old n h
theorem ER.newS (r : ER K Hs H σ env B) (o : Ok Hs H C) {p : Addr} (n : H p = none) (u : HO) : ER K (upd Hs p u) (upd H p u) σ env B :=
  r.mono (fun a w h => upd_old (o.free n) h) fun a w _ h => upd_old n h
theorem ER.newO (r : ER K Hs H σ env B) {p : Addr} (n : H p = none) (u : HO) : ER K Hs (upd H p u) σ env B := r.mono (fun a w h => h) fun a w _ h => upd_old n h
theorem sz1000 {n : Nat} (h : n ≤ 100000) : n ≤ sizeLine := Nat.le_trans h (by decide)
def eTup (ms : Arg) : Exp := fun env => (ms env).bind fun p => if p.1.length ≤ 100000 then .ok (.tup p.1, p.2) else .no
def eLst (ms : Arg) : Exp := fun env => (ms env).bind fun p => if p.1.length ≤ 100000 then .ok (.lst true p.1, p.2) else .no
theorem ev_tup {ta : TA} {ms : Arg} (e : EvA K W ta ms) : EvI K W (tTup ta) (eTup ms) := by
  intro σ env F Hs H A r o
  unfold eTup
  cases h1 : ms env with
  | no => trivial
  | ex x e' => exact fun k Q => e.ex r o h1 k _
  | ok p =>
    obtain ⟨ds, env1⟩ := p
    simp only [Res.bind_ok]
    by_cases hl : ds.length ≤ 100000
    · rw [if_pos hl]
      intro Q k
      refine e.ok r o h1 fun vs Hs1 H1 B1 A1 rs r1 o1 g1 => ⟨by rw [rs.length]; exact sz1000 hl, fun p n => ?_⟩
      refine k (.ref p) (upd Hs1 p (.tup vs)) (upd H1 p (.tup vs)) B1 A1 ?_ (r1.newS o1 n _) (o1.newS n _) (g1.trans (Go.newS o1 n _))
      simpa using RL.tup (.of upd_same) (rs.newS o1 n _) RL.nil
    · rw [if_neg hl]; trivial
theorem ev_lst {ta : TA} {ms : Arg} (e : EvA K W ta ms) : EvI K W (tLst ta) (eLst ms) := by
  intro σ env F Hs H A r o
  unfold eLst
  cases h1 : ms env with
  | no => trivial
  | ex x e' => exact fun k Q => e.ex r o h1 k _
  | ok p =>
    obtain ⟨ds, env1⟩ := p
    simp only [Res.bind_ok]
    by_cases hl : ds.length ≤ 100000
    · rw [if_pos hl]
      intro Q k
      refine e.ok r o h1 fun vs Hs1 H1 B1 A1 rs r1 o1 g1 => ⟨by rw [rs.length]; exact sz1000 hl, fun p n => ?_⟩
      refine k (.ref p) Hs1 (upd H1 p (.lst vs)) (p :: B1) A1 ?_ (r1.newO n _) (o1.newO n _) (g1.trans (Go.newO n _))
      simpa using RL.lstO upd_same (rs.newO n _) RL.nil
    · rw [if_neg hl]; trivial
/-- the items of a list or a tuple -/
def itD : D → Option (List D)
  | .tup ds => some ds
  | .lst _ ds => some ds
  | .frz ds => some ds
  | _ => none
def ixD (d : D) (i : Int) : Option D := (itD d).bind fun ds => atI ds i
theorem RL.items {x : V} {ds : List D} (r : RL K Hs H [x] [d] B) (s : ∀ a o, Hs a = some o → H a = some o) (h : itD d = some ds) :
    ∃ p xs B', x = .ref p ∧ (SqL K H p xs ∨ SqT K H p xs) ∧ RL K Hs H xs ds B' ∧ ∀ a, B'.count a ≤ B.count a := by
  cases r with
  | sc h' _ => cases x <;> simp [scD] at h' <;> subst h' <;> simp [itD] at h
  | @tup a xs es A vs ds B h1 h2 h3 => simp [itD] at h; subst h; exact ⟨a, xs, A, rfl, .inr (ext_t s h1), h2, fun a => by rw [List.count_append]; omega⟩
  | @frz a xs es vs ds B h1 h2 h3 => simp [itD] at h; subst h; exact ⟨a, xs, [], rfl, .inl (ext_l s h1), h2, fun a => by simp⟩
  | @lstS a xs es vs ds B h1 h2 h3 => simp [itD] at h; subst h; exact ⟨a, xs, [], rfl, .inl (.of (s _ _ h1)), h2, fun a => by simp⟩
  | @lstO a xs es A vs ds B h1 h2 h3 => simp [itD] at h; subst h; exact ⟨a, xs, A, rfl, .inl (.of h1), h2, fun a => by rw [List.count_cons, List.count_append]; omega⟩
  | dct h1 hk h2 h3 => simp [itD] at h
  | dctS h1 hk h2 h3 => simp [itD] at h
  | objS hc h1 hk h2 h3 => simp [itD] at h
  | obj hc h1 hk h2 h3 => simp [itD] at h
  | exo h1 h3 => simp [itD] at h
  | dead h3 => simp [itD] at h
theorem at_rel {xs : List V} {ds : List D} (r : RL K Hs H xs ds B) {i : Int} (h : atI ds i = some d) : ∃ v B', atI xs i = some v ∧ RL K Hs H [v] [d] B' ∧ ∀ a, B'.count a ≤ B.count a := by
  unfold atI at h ⊢
  rw [r.length]
  cases e : ixN ds.length i with
  | none => rw [e] at h; simp at h
  | some j =>
    rw [e] at h
    obtain ⟨v, B', h1, h2, h3⟩ := r.at (i := j) (d := d) (by simpa using h)
    exact ⟨v, B', by simpa using h1, h2, h3⟩
theorem rix {x y : V} {i : Int} (r : RL K Hs H [x] [d1] B) (s : ∀ a o, Hs a = some o → H a = some o) (ry : y = .int i) (h : ixD d1 i = some d) :
    ∃ v B', RL K Hs H [v] [d] B' ∧ (∀ a, B'.count a ≤ B.count a) ∧ ∀ Q : VK, Q v H → rIx K x y H Q := by
  unfold ixD at h
  cases e : itD d1 with
  | none => rw [e] at h; simp at h
  | some ds =>
    rw [e] at h
    obtain ⟨p, xs, B', rfl, hq, h2, h3⟩ := r.items s e
    obtain ⟨v, B2, e1, e2, e3⟩ := at_rel h2 (by simpa using h)
    refine ⟨v, B2, e2, fun a => Nat.le_trans (e3 a) (h3 a), fun Q q => ?_⟩
    rcases hq with hq | hq
    · exact .inl ⟨p, xs, i, v, rfl, ry, hq, e1, q⟩
    · exact .inr (.inl ⟨p, xs, i, v, rfl, ry, hq, e1, q⟩)
def eIx (ma mb : Exp) : Exp := fun env => (ma env).bind fun p => (mb p.2).bind fun q => match q.1 with
  | .int i => (match ixD p.1 i with
    | some d => .ok (d, q.2)
    | none => .no)
  | _ => .no
theorem ev_ix (ea : EvI K W ta ma) (eb : EvI K W tb mb) : EvI K W (tOp (rIx K) ta tb) (eIx ma mb) := by
  intro σ env F Hs H A rr o
  unfold eIx
  cases h1 : ma env with
  | no => trivial
  | ex x e => exact fun k Q => ea.ex rr o h1 k _
  | ok p =>
    obtain ⟨d1, env1⟩ := p
    simp only [Res.bind_ok]
    cases h2 : mb env1 with
    | no => trivial
    | ex x e => exact fun k Q => EvI.two_ex2 ea eb rr o h1 h2 k
    | ok q =>
      obtain ⟨d2, env2⟩ := q
      simp only [Res.bind_ok]
      cases d2 with
      | int i =>
        dsimp only
        cases h3 : ixD d1 i with
        | none => trivial
        | some d =>
          intro Q k
          refine EvI.two ea eb rr o h1 h2 fun x y Hs2 H2 B1 B2 A2 rx ry r2 o2 g2 => ?_
          obtain ⟨v, B', hv, hc, q⟩ := rix rx o2.sub ry.int h3
          exact q Q (k v Hs2 H2 B' A2 hv r2 (o2.less fun a => by have := hc a; simp only [List.count_append]; omega) (g2.less fun a c => by have := hc a; simp only [List.count_append] at c ⊢; omega))
      | _ => trivial
/-- x[e], x a name: its list is not shared by this -/
def live (env : Env) (i : Nat) : Bool := match env[i]? with
  | some c => !isDead c
  | none => false
theorem live_at (r : ER K Hs H σ env A) {i : Nat} (h : live env i = true) : ∃ v, σ[i]? = some (some v) := by
  unfold live at h
  cases e : env[i]? with
  | none => rw [e] at h; cases h
  | some c =>
    rw [e] at h
    obtain ⟨v, _, _, e1, _⟩ := r.at e (not_dead (by simpa using h))
    exact ⟨v, e1⟩
def eIxV (i : Nat) (mb : Exp) : Exp := fun env => if live env i then (mb env).bind fun q => match q.1, q.2[i]? with
  | .int j, some c => (match ixD c j with
    | some d => if own d then .ok (sh d, q.2.set i (sh c)) else .ok (d, q.2)
    | none => .no)
  | _, _ => .no
  else .no
theorem shL_get : ∀ {ds : List D} {j : Nat} {d : D}, ds[j]? = some d → (shL ds)[j]? = some (sh d)
  | [], j, d, h => by simp at h
  | e :: r, 0, d, h => by simp at h; subst h; rfl
  | e :: r, j + 1, d, h => by show (shL r)[j]? = _; exact shL_get (by simpa using h)
theorem shL_len : ∀ ds : List D, (shL ds).length = ds.length
  | [] => rfl
  | e :: r => congrArg Nat.succ (shL_len r)
theorem ixD_sh {c : D} {j : Int} (h : ixD c j = some d) : ixD (sh c) j = some (sh d) := by
  unfold ixD at h ⊢
  have go : ∀ ds : List D, atI ds j = some d → atI (shL ds) j = some (sh d) := fun ds h => by
    unfold atI at h ⊢
    rw [shL_len]
    cases e : ixN ds.length j with
    | none => rw [e] at h; simp at h
    | some k => rw [e] at h; simpa using shL_get (by simpa using h)
  cases c <;> simp [itD] at h <;> simp [sh, itD] <;> exact go _ h
theorem ixD_dead {c : D} {j : Int} (h : ixD c j = some d) : c ≠ .dead := fun e => by subst e; simp [ixD, itD] at h
theorem ev_ixV {i : Nat} (eb : EvI K W tb mb) : EvI K W (tOp (rIx K) (tVar i) tb) (eIxV i mb) := by
  intro σ env F Hs H A rr o
  unfold eIxV
  cases hl : live env i with
  | false => trivial
  | true =>
  obtain ⟨v, hv⟩ := live_at rr hl
  rw [if_pos rfl]
  cases h2 : mb env with
  | no => trivial
  | ex x e => exact fun k Q => ⟨v, hv, eb.ex rr o h2 k _⟩
  | ok q =>
    obtain ⟨d2, env2⟩ := q
    simp only [Res.bind_ok]
    cases d2 with
    | int j =>
      cases hc : env2[i]? with
      | none => trivial
      | some c =>
        dsimp only
        cases h3 : ixD c j with
        | none => trivial
        | some d =>
          dsimp only
          have hlt := (List.getElem?_eq_some_iff.mp hc).1
          cases hw : own d with
          | false =>
            intro Q k
            refine ⟨v, hv, eb.ok rr o h2 fun y Hs2 H2 B2 A2 ry r2 o2 g2 => ?_⟩
            obtain ⟨v', B, A1, e1, e2, e3, e4⟩ := r2.at hc (ixD_dead h3)
            rw [hv] at e1; cases e1
            obtain ⟨u, B', hu, hcn, q⟩ := rix e2 o2.sub ry.int h3
            have : B' = [] := hu.own0 (by simp [ownL, hw])
            subst this
            exact q Q (k u Hs2 H2 [] A2 hu r2 (o2.less fun a => by simp only [List.count_append, List.count_nil]; omega) (g2.less fun a c => by simp only [List.count_append, List.count_nil] at c ⊢; omega))
          | true =>
            intro Q k
            refine ⟨v, hv, eb.ok rr o h2 fun y Hs2 H2 B2 A2 ry r2 o2 g2 => ?_⟩
            obtain ⟨v', B, A1, e1, e2, e3, e4⟩ := r2.at hc (ixD_dead h3)
            rw [hv] at e1; cases e1
            have o1 : Ok Hs2 H2 (B ++ (F ++ A1)) := o2.less fun a => by have := e4 a; simp only [List.count_append]; omega
            have s1 := e2.share1 o1
            obtain ⟨A3, p1, p2⟩ := ER.give (e3.pool o1) s1 hv hlt
            obtain ⟨u, B', hu, hcn, q⟩ := rix s1 o1.pool.sub ry.int (ixD_sh h3)
            have : B' = [] := nil_of_count hcn
            subst this
            refine q Q (k u _ _ [] A3 hu p1 (o1.pool.less fun a => by have := p2 a; simp only [List.count_append, List.count_nil] at *; omega) ?_)
            have g : Go Hs H A Hs2 H2 (B ++ A1) := g2.less fun a c => by have := e4 a; simp only [List.count_append] at c ⊢; omega
            exact (g.pool o1).less fun a c => by have := p2 a; simp only [List.nil_append, List.count_nil] at *; omega
    | _ => trivial
/-- what a def does: its value, and what its first parameter holds behind it (dead where that is not told) -/
abbrev Fn := List D → Res (D × D)
def spI (K : PySem.W.Frag) (n : Nat) (m : Fn) : Sp := fun vs H Q _ => vs.length = n ∧ ∃ ds Hs F A p, RL K Hs H vs ds A ∧ Ok Hs H (F ++ A) ∧ m ds = .ok p ∧
  ∀ v Hs' H' B C, RL K Hs' H' [v] [p.1] B → RL K Hs' H' (vs.take 1) [p.2] C → Ok Hs' H' (B ++ (F ++ C)) → Go Hs H A Hs' H' (B ++ C) → Q v H'
def eCall (m : Fn) (ms : Arg) : Exp := fun env => (ms env).bind fun p => match m p.1 with
  | .ok q => .ok (q.1, p.2)
  | _ => .no
theorem ev_call {n : Nat} {f : Fn} {E : XK} {ta : TA} {ms : Arg} (hn : ∀ ds q, f ds = .ok q → ds.length = n) (e : EvA K W ta ms) : EvI K W (tCall (spI K n f) [] E ta) (eCall f ms) := by
  intro σ env F Hs H A r o
  unfold eCall
  cases h1 : ms env with
  | no => trivial
  | ex x e' => exact fun k Q => e.ex r o h1 k _
  | ok p =>
    obtain ⟨ds, env1⟩ := p
    simp only [Res.bind_ok]
    cases h2 : f ds with
    | no => trivial
    | ex x e' => trivial
    | ok q =>
      obtain ⟨d, d0⟩ := q
      intro Q k
      refine e.ok r o h1 fun vs Hs1 H1 B1 A1 rs r1 o1 g1 => ?_
      rw [List.append_nil]
      refine ⟨by rw [rs.length]; exact hn _ _ h2, ds, Hs1, F ++ A1, B1, (d, d0), rs, o1.less fun a => by simp only [List.count_append]; omega, h2, fun v Hs2 H2 B2 C2 rv r0 o2 g2 => ?_⟩
      refine k v Hs2 H2 B2 A1 rv (r1.mono g2.hs fun a w c h => g2.keep a w h ?_) (o2.less fun a => by simp only [List.count_append]; omega) ?_
      · have := o1.nd a; simp only [List.count_append] at this; omega
      · refine g1.trans ?_
        have g3 := g2.frame (F := A1)
        exact (g3.more fun a c => by simp only [List.count_append] at c ⊢; omega).less fun a c => by simp only [List.count_append] at c ⊢; omega
/-- f(x, ..), x a name whose list f changes -/
def eCallX (m : Fn) (i : Nat) (ms : Arg) : Exp := fun env => if live env i then (ms env).bind fun p => match p.2[i]? with
  | some c => if isDead c then .no else (match m (c :: p.1) with
    | .ok q => .ok (q.1, p.2.set i q.2)
    | _ => .no)
  | none => .no
  else .no
theorem ev_callX {n : Nat} {f : Fn} {E : XK} {i : Nat} {ta : TA} {ms : Arg} (hn : ∀ ds q, f ds = .ok q → ds.length = n) (e : EvA K W ta ms) : EvI K W (tCall (spI K n f) [] E (tCons (tVar i) ta)) (eCallX f i ms) := by
  intro σ env F Hs H A r o
  unfold eCallX
  cases hl : live env i with
  | false => trivial
  | true =>
  obtain ⟨v0, hv⟩ := live_at r hl
  rw [if_pos rfl]
  cases h1 : ms env with
  | no => trivial
  | ex x e' => exact fun k Q => ⟨v0, hv, e.ex r o h1 k _⟩
  | ok p =>
    obtain ⟨ds, env1⟩ := p
    simp only [Res.bind_ok]
    cases hc : env1[i]? with
    | none => trivial
    | some c =>
      dsimp only
      cases hd : isDead c with
      | true => trivial
      | false =>
      simp only [Bool.false_eq_true, if_false]
      cases h2 : f (c :: ds) with
      | no => trivial
      | ex x e' => trivial
      | ok q =>
        obtain ⟨d, d0⟩ := q
        intro Q k
        have hlt := (List.getElem?_eq_some_iff.mp hc).1
        refine ⟨v0, hv, e.ok r o h1 fun vs Hs1 H1 B1 A1 rs r1 o1 g1 => ?_⟩
        obtain ⟨v', B0, A0, e1, e2, e3, e4⟩ := r1.at hc (not_dead hd)
        rw [hv] at e1; cases e1
        rw [List.append_nil]
        refine ⟨by rw [List.length_cons, rs.length, ← hn _ _ h2, List.length_cons], c :: ds, Hs1, F ++ A0, B0 ++ B1, (d, d0), e2.cons rs, o1.less fun a => by have := e4 a; simp only [List.count_append]; omega, h2, fun v Hs2 H2 B2 C2 rv r0 o2 g2 => ?_⟩
        have e3' : ER K Hs2 H2 σ (env1.set i .dead) A0 := e3.mono g2.hs fun a w c h => g2.keep a w h (by have := o1.nd a; have := e4 a; simp only [List.count_append] at *; omega)
        obtain ⟨A3, p1, p2⟩ := ER.give e3' r0 hv hlt
        refine k v Hs2 H2 B2 A3 rv p1 (o2.less fun a => by have := p2 a; simp only [List.count_append]; omega) ?_
        have g3 := g2.frame (F := A0)
        exact g1.trans ((g3.more fun a c => by have := e4 a; simp only [List.count_append] at c ⊢; omega).less fun a c => by have := p2 a; simp only [List.count_append] at c ⊢; omega)
def CaS (K : PySem.W.Frag) (r : List V → Hp → VK → Prop) (f : List D → Option D) : Prop := ∀ Hs H vs ds B d, (∀ a o, Hs a = some o → H a = some o) → RL K Hs H vs ds B → f ds = some d → ∃ v, scD v = some d ∧ ∀ Q : VK, Q v H → r vs H Q
def eB (f : List D → Option D) (ms : Arg) : Exp := fun env => (ms env).bind fun p => match f p.1 with
  | some d => .ok (d, p.2)
  | none => .no
theorem ev_b {r : List V → Hp → VK → Prop} {f : List D → Option D} {ta : TA} {ms : Arg} (hr : CaS K r f) (e : EvA K W ta ms) : EvI K W (tCB r ta) (eB f ms) := by
  intro σ env F Hs H A rr o
  unfold eB
  cases h1 : ms env with
  | no => trivial
  | ex x e' => exact fun k Q => e.ex rr o h1 k _
  | ok p =>
    obtain ⟨ds, env1⟩ := p
    simp only [Res.bind_ok]
    cases h3 : f ds with
    | none => trivial
    | some d =>
      intro Q k
      refine e.ok rr o h1 fun vs Hs2 H2 B1 A2 rx r2 o2 g2 => ?_
      obtain ⟨v, hv, q⟩ := hr Hs2 H2 vs ds B1 d o2.sub rx h3
      exact q Q (k v Hs2 H2 [] A2 (.sc hv .nil) r2 (o2.less fun a => by simp only [List.count_append, List.count_nil]; omega) (g2.less fun a c => by simp only [List.count_append, List.count_nil] at c ⊢; omega))
/-- .. of a name alone, which is not shared by this -/
def eBV (f : List D → Option D) (i : Nat) : Exp := fun env => match env[i]? with
  | some c => if isDead c then .no else (match f [c] with
    | some d => .ok (d, env)
    | none => .no)
  | none => .no
theorem ev_bV {r : List V → Hp → VK → Prop} {f : List D → Option D} {i : Nat} (hr : CaS K r f) : EvI K W (tCB r (tCons (tVar i) tNil)) (eBV f i) := by
  intro σ env F Hs H A rr o
  unfold eBV
  cases hc : env[i]? with
  | none => trivial
  | some c =>
    dsimp only
    cases hd : isDead c with
    | true => trivial
    | false =>
    simp only [Bool.false_eq_true, if_false]
    cases h3 : f [c] with
    | none => trivial
    | some d =>
      intro Q k
      obtain ⟨v', B0, A0, e1, e2, e3, e4⟩ := rr.at hc (not_dead hd)
      obtain ⟨v, hv, q⟩ := hr Hs H [v'] [c] B0 d o.sub e2 h3
      exact ⟨v', e1, q Q (k v Hs H [] A (.sc hv .nil) rr (by simpa using o) (by simpa using Go.refl))⟩
theorem RL.one {vs : List V} (r : RL K Hs H vs [d] B) : ∃ v, vs = [v] ∧ RL K Hs H [v] [d] B := by
  cases vs with
  | nil => cases r
  | cons v vs =>
    have : vs = [] := List.eq_nil_of_length_eq_zero (by have := r.length; simpa using this)
    subst this
    exact ⟨v, rfl, r⟩
theorem RL.two {vs : List V} (r : RL K Hs H vs [d1, d2] B) : ∃ v w B1 B2, vs = [v, w] ∧ RL K Hs H [v] [d1] B1 ∧ RL K Hs H [w] [d2] B2 := by
  cases vs with
  | nil => cases r
  | cons v vs =>
    obtain ⟨B1, B2, _, r1, r2⟩ := r.un
    obtain ⟨w, rfl, r2⟩ := r2.one
    exact ⟨v, w, B1, B2, rfl, r1, r2⟩
def b1I (f : Int → Int) : List D → Option D
  | [.int i] => some (.int (f i))
  | _ => none
def b2I (f : Int → Int → Int) : List D → Option D
  | [.int i, .int j] => some (.int (f i j))
  | _ => none
def gAbs := b1I fun i => if i < 0 then -i else i
def gMax := b2I fun i j => if j > i then j else i
def gMin := b2I fun i j => if j < i then j else i
def gInt : List D → Option D
  | [.int i] => some (.int i)
  | [.bl k] => some (.int (if k then 1 else 0))
  | _ => none
def gLen : List D → Option D
  | [d] => (match d with
    | .str z => if z.length ≤ 1000000 then some (.int z.length) else none
    | d => (itD d).map fun ds => .int ds.length)
  | _ => none
theorem cs_1I {f : Int → Int} : CaS K (fun xs H Q => ∃ i, xs = [.int i] ∧ Q (.int (f i)) H) (b1I f) := by
  intro Hs H vs ds B d s r h
  unfold b1I at h
  split at h
  · rename_i i
    obtain ⟨v, rfl, r⟩ := r.one
    cases h
    exact ⟨.int (f i), rfl, fun Q q => ⟨i, by rw [r.int], q⟩⟩
  · cases h
theorem cs_2I {f : Int → Int → Int} : CaS K (fun xs H Q => ∃ i j, xs = [.int i, .int j] ∧ Q (.int (f i j)) H) (b2I f) := by
  intro Hs H vs ds B d s r h
  unfold b2I at h
  split at h
  · rename_i i j
    obtain ⟨v, w, _, _, rfl, r1, r2⟩ := r.two
    cases h
    exact ⟨.int (f i j), rfl, fun Q q => ⟨i, j, by rw [r1.int, r2.int], q⟩⟩
  · cases h
theorem cs_abs : CaS K (fun xs H Q => ∃ i, xs = [.int i] ∧ Q (.int (if i < 0 then -i else i)) H) gAbs := cs_1I
theorem cs_max : CaS K (fun xs H Q => ∃ i j, xs = [.int i, .int j] ∧ Q (.int (if j > i then j else i)) H) gMax := cs_2I
theorem cs_min : CaS K (fun xs H Q => ∃ i j, xs = [.int i, .int j] ∧ Q (.int (if j < i then j else i)) H) gMin := cs_2I
theorem cs_int : CaS K (fun xs H Q => (∃ i, xs = [.int i] ∧ Q (.int i) H) ∨ ∃ k, xs = [.bl k] ∧ Q (.int (if k then 1 else 0)) H) gInt := by
  intro Hs H vs ds B d s r h
  unfold gInt at h
  split at h
  · rename_i i
    obtain ⟨v, rfl, r⟩ := r.one
    cases h
    exact ⟨.int i, rfl, fun Q q => .inl ⟨i, by rw [r.int], q⟩⟩
  · rename_i i
    obtain ⟨v, rfl, r⟩ := r.one
    cases h
    exact ⟨.int _, rfl, fun Q q => .inr ⟨i, by rw [r.bl], q⟩⟩
  · cases h
theorem cs_len : CaS K (fun xs H Q => ∃ x n, xs = [x] ∧ LenV K x H n ∧ Q (.int n) H) gLen := by
  intro Hs H vs ds B d s r h
  unfold gLen at h
  split at h
  · rename_i e
    obtain ⟨v, rfl, r⟩ := r.one
    split at h
    · rename_i z _ _
      split at h
      · rename_i hz
        cases h
        exact ⟨.int _, rfl, fun Q q => ⟨v, _, rfl, by rw [r.strv]; exact ⟨Nat.le_trans hz (by decide), rfl⟩, q⟩⟩
      · cases h
    · cases e2 : itD e with
      | none => rw [e2] at h; cases h
      | some es =>
        rw [e2] at h
        cases h
        obtain ⟨p, xs, B', rfl, hq, h2, h3⟩ := r.items s e2
        refine ⟨.int es.length, rfl, fun Q q => ⟨.ref p, es.length, rfl, ?_, q⟩⟩
        rcases hq with hq | hq
        · exact .inl ⟨xs, hq, h2.length.symm⟩
        · exact .inr ⟨xs, hq, h2.length.symm⟩
  · cases h
def kindD : D → Option String
  | .non => some "NoneType"
  | .bl _ => some "bool"
  | .int _ => some "int"
  | .str _ => some "str"
  | .tup _ => some "tuple"
  | .lst _ _ => some "list"
  | .frz _ => some "list"
  | .dct _ _ _ => some "dict"
  | _ => none
def instOf (k n : String) : Bool := k == n || (k == "bool" && n == "int")
def isiD (n : String) : List D → Option D
  | [d] => (kindD d).map fun k => .bl (instOf k n)
  | _ => none
def eIsi (n : String) (ma : Exp) : Exp := fun env => (ma env).bind fun p => match isiD n [p.1] with
  | some d => .ok (d, p.2)
  | none => .no
def eIsiV (n : String) (i : Nat) : Exp := eBV (isiD n) i
mutual
def toPy : D → Option PyData
  | .non => some .none
  | .bl b => some (.bool b)
  | .int i => some (.int i)
  | .str x => some (.str x)
  | .tup ds => (toPyL ds).map .tuple
  | .lst _ ds => (toPyL ds).map .list
  | .frz ds => (toPyL ds).map .list
  | _ => none
def toPyL : List D → Option (List PyData)
  | [] => some []
  | d :: ds => (toPy d).bind fun p => (toPyL ds).map fun ps => p :: ps
end
theorem RL.dp {vs : List V} {ds : List D} (r : RL K Hs H vs ds B) (s : ∀ a o, Hs a = some o → H a = some o) : ∀ {ps : List PyData}, toPyL ds = some ps → DpAll K H vs ps := by
  have mp : ∀ {α β : Type} {o : Option α} {f : α → β} {b : β}, o.map f = some b → ∃ a, o = some a ∧ f a = b := fun {α β o f b} h => by
    cases o with
    | none => cases h
    | some a => exact ⟨a, rfl, Option.some.inj h⟩
  have bn : ∀ {α β : Type} {o : Option α} {f : α → Option β} {b : β}, o.bind f = some b → ∃ a, o = some a ∧ f a = some b := fun {α β o f b} h => by
    cases o with
    | none => cases h
    | some a => exact ⟨a, rfl, h⟩
  induction r with
  | nil => intro ps h; cases h; exact .nil
  | @sc v d vs ds B h' _ ih =>
    intro ps h
    obtain ⟨p, h1, h2⟩ := bn h
    obtain ⟨q, h3, rfl⟩ := mp h2
    refine .cons ?_ (ih h3)
    cases v <;> simp [scD] at h' <;> subst h' <;> cases h1 <;> constructor
  | tup h' _ _ i1 i2 =>
    intro ps h
    obtain ⟨p, h1, h2⟩ := bn h
    obtain ⟨q, h3, rfl⟩ := mp h2
    obtain ⟨q', h4, rfl⟩ := mp h1
    exact .cons (.tup (ext_t s h') (i1 h4)) (i2 h3)
  | frz h' _ _ i1 i2 =>
    intro ps h
    obtain ⟨p, h1, h2⟩ := bn h
    obtain ⟨q, h3, rfl⟩ := mp h2
    obtain ⟨q', h4, rfl⟩ := mp h1
    exact .cons (.lst (ext_l s h') (i1 h4)) (i2 h3)
  | lstS h' _ _ i1 i2 =>
    intro ps h
    obtain ⟨p, h1, h2⟩ := bn h
    obtain ⟨q, h3, rfl⟩ := mp h2
    obtain ⟨q', h4, rfl⟩ := mp h1
    exact .cons (.lst (.of (s _ _ h')) (i1 h4)) (i2 h3)
  | lstO h' _ _ i1 i2 =>
    intro ps h
    obtain ⟨p, h1, h2⟩ := bn h
    obtain ⟨q, h3, rfl⟩ := mp h2
    obtain ⟨q', h4, rfl⟩ := mp h1
    exact .cons (.lst (.of h') (i1 h4)) (i2 h3)
  | dct h' _ _ _ _ _ => intro ps h; obtain ⟨p, h1, h2⟩ := bn h; cases h1
  | dctS h' _ _ _ _ _ => intro ps h; obtain ⟨p, h1, h2⟩ := bn h; cases h1
  | obj _ _ _ _ _ _ _ => intro ps h; obtain ⟨p, h1, h2⟩ := bn h; cases h1
  | objS _ _ _ _ _ _ _ => intro ps h; obtain ⟨p, h1, h2⟩ := bn h; cases h1
  | exo _ _ _ => intro ps h; obtain ⟨p, h1, h2⟩ := bn h; cases h1
  | dead _ _ => intro ps h; obtain ⟨p, h1, h2⟩ := bn h; cases h1
theorem RL.strv' {x : V} {a : Str} (r : RL K Hs H [x] [.str a] B) : x = .str a := by
  cases r with
  | sc h _ => cases x <;> simp [scD] at h; subst h; rfl
def strEq : D → D → Option Bool
  | .str a, .str b => some (decide (a = b))
  | _, _ => none
def eqP (d1 d2 : D) : Option Bool := (toPy d1).bind fun p => (toPy d2).bind fun q => if SeqAt.shaped p && SeqAt.shaped q then some (PyData.eqv p q) else none
def eqD (d1 d2 : D) : Option Bool := match strEq d1 d2 with
  | some b => some b
  | none => eqP d1 d2
def fEq (d1 d2 : D) : Option D := (eqD d1 d2).map .bl
def fNe (d1 d2 : D) : Option D := (eqD d1 d2).map fun b => .bl (!b)
theorem RL.dp1 {x : V} {p : PyData} (r : RL K Hs H [x] [d] B) (s : ∀ a o, Hs a = some o → H a = some o) (h : toPy d = some p) : Dp K H x p := by
  have := r.dp s (ps := [p]) (by show (toPy d).bind _ = _; rw [h]; rfl)
  cases this with
  | cons a _ => exact a
theorem eqP_inv {b : Bool} (h : eqP d1 d2 = some b) : ∃ p q, toPy d1 = some p ∧ toPy d2 = some q ∧ SeqAt.shaped p = true ∧ SeqAt.shaped q = true ∧ b = PyData.eqv p q := by
  unfold eqP at h
  cases h1 : toPy d1 with
  | none => rw [h1] at h; cases h
  | some p =>
    cases h2 : toPy d2 with
    | none => rw [h1, h2] at h; cases h
    | some q =>
      rw [h1, h2] at h
      simp only [Option.bind_some] at h
      split at h
      · rename_i hc
        simp only [Bool.and_eq_true] at hc
        cases h
        exact ⟨p, q, rfl, rfl, hc.1, hc.2, rfl⟩
      · cases h
theorem strEq_inv {b : Bool} (h : strEq d1 d2 = some b) : ∃ a c, d1 = .str a ∧ d2 = .str c ∧ b = decide (a = c) := by
  cases d1 <;> cases d2 <;> simp only [strEq, reduceCtorEq, Option.some.injEq] at h
  exact ⟨_, _, rfl, rfl, h.symm⟩
theorem eqD_inv {b : Bool} (h : eqD d1 d2 = some b) : (∃ p q, toPy d1 = some p ∧ toPy d2 = some q ∧ SeqAt.shaped p = true ∧ SeqAt.shaped q = true ∧ b = PyData.eqv p q) ∨ ∃ a c, d1 = .str a ∧ d2 = .str c ∧ b = decide (a = c) := by
  unfold eqD at h
  split at h
  · rename_i k hk
    cases h
    exact .inr (strEq_inv hk)
  · exact .inl (eqP_inv h)
theorem os_eq : OpS K (fun x y H Q => rEqD K x y H Q ∨ rEq x y H Q) fEq := by
  intro Hs H x y d1 d2 B1 B2 d s rx ry e
  unfold fEq at e
  cases h : eqD d1 d2 with
  | none => rw [h] at e; cases e
  | some b =>
    rw [h] at e; cases e
    rcases eqD_inv h with ⟨p, q, h1, h2, h3, h4, rfl⟩ | ⟨a, c, rfl, rfl, rfl⟩
    · exact ⟨.bl _, rfl, fun Q w => .inl ⟨p, q, rx.dp1 s h1, ry.dp1 s h2, h3, h4, w⟩⟩
    · refine ⟨.bl _, rfl, fun Q w => .inr ?_⟩
      rw [rx.strv', ry.strv']
      exact ⟨rfl, by simpa using w⟩
theorem os_ne : OpS K (fun x y H Q => rNeD K x y H Q ∨ rNe x y H Q) fNe := by
  intro Hs H x y d1 d2 B1 B2 d s rx ry e
  unfold fNe at e
  cases h : eqD d1 d2 with
  | none => rw [h] at e; cases e
  | some b =>
    rw [h] at e; cases e
    rcases eqD_inv h with ⟨p, q, h1, h2, h3, h4, rfl⟩ | ⟨a, c, rfl, rfl, rfl⟩
    · exact ⟨.bl _, rfl, fun Q w => .inl ⟨p, q, rx.dp1 s h1, ry.dp1 s h2, h3, h4, w⟩⟩
    · refine ⟨.bl _, rfl, fun Q w => .inr ?_⟩
      rw [rx.strv', ry.strv']
      exact ⟨rfl, by simpa using w⟩
/-- x is None, x is not None -/
def isNon : D → Option Bool
  | .dead => none
  | .non => some true
  | .exo _ _ => none
  | _ => some false
def eNonB (neg : Bool) (ma : Exp) : Exp := fun env => (ma env).bind fun p => match isNon p.1 with
  | some b => .ok (.bl (if neg then !b else b), p.2)
  | none => .no
end
end Fl
namespace Fl
open PySem PySem.Spec PyProof.Rows L2
section
variable {K : PySem.W.Frag} {W : Wh} {σ : L2.St} {env env' : Env} {F A A' B C : List Addr} {Hs H Hs' H' Hs'' H'' : Hp} {t ta tb : TE} {m ma mb : Exp} {d d1 d2 : D} {v : V} {tt tu : TT} {bm bn : Tst}
def bOf (m : Exp) : Tst := fun env => (m env).bind fun p => match p.1 with
  | .bl b => .ok (b, p.2)
  | _ => .no
theorem eb_of {tw : TT} (hw : ∀ σ H Q, (t σ H fun x H' => ∃ k, x = .bl k ∧ Q k H') → tw σ H Q) (e : EvI K W t m) : EvB K W tw (bOf m) := by
  intro σ env F Hs H A rr o
  unfold bOf
  cases h1 : m env with
  | no => trivial
  | ex x e' => exact fun k Q => hw _ _ _ (e.ex rr o h1 k _)
  | ok p =>
    obtain ⟨d, env1⟩ := p
    simp only [Res.bind_ok]
    cases d with
    | bl b =>
      intro Q k
      refine hw _ _ _ (e.ok rr o h1 fun x Hs2 H2 B1 A2 rx r2 o2 g2 => ⟨b, rx.bl, k Hs2 H2 A2 r2 (o2.less fun a => by simp only [List.count_append]; omega) (g2.less fun a c => by simp only [List.count_append]; omega)⟩)
    | _ => trivial
theorem eb_test (e : EvI K W t m) : EvB K W (tTest t) (bOf m) := eb_of (fun _ _ _ h => h) e
theorem eb_B (e : EvI K W t m) : EvB K W (tB t) (bOf m) := eb_of (fun _ _ _ h => h) e
def bNot (b : Tst) : Tst := fun env => (b env).bind fun p => .ok (!p.1, p.2)
def bAnd (b c : Tst) : Tst := fun env => (b env).bind fun p => if p.1 then c p.2 else .ok (false, p.2)
def bOr (b c : Tst) : Tst := fun env => (b env).bind fun p => if p.1 then .ok (true, p.2) else c p.2
theorem eb_not (e : EvB K W tt bm) : EvB K W (tNot tt) (bNot bm) := by
  intro σ env F Hs H A rr o
  unfold bNot
  cases h1 : bm env with
  | no => trivial
  | ex x e' => exact fun k Q => e.ex rr o h1 k _
  | ok p =>
    obtain ⟨b, env1⟩ := p
    intro Q k
    exact e.ok rr o h1 fun Hs2 H2 A2 r2 o2 g2 => k Hs2 H2 A2 r2 o2 g2
theorem eb_and (e : EvB K W tt bm) (f : EvB K W tu bn) : EvB K W (tAnd tt tu) (bAnd bm bn) := by
  intro σ env F Hs H A rr o
  unfold bAnd
  cases h1 : bm env with
  | no => trivial
  | ex x e' => exact fun k Q => e.ex rr o h1 k _
  | ok p =>
    obtain ⟨b, env1⟩ := p
    simp only [Res.bind_ok]
    cases b with
    | false => exact fun Q k => e.ok rr o h1 fun Hs2 H2 A2 r2 o2 g2 => k Hs2 H2 A2 r2 o2 g2
    | true =>
      simp only [if_true]
      cases h2 : bn env1 with
      | no => trivial
      | ex x e' => exact fun k Q => e.ok rr o h1 fun Hs2 H2 A2 r2 o2 g2 => f.ex r2 o2 h2 (k.after0 g2) _
      | ok q => exact fun Q k => e.ok rr o h1 fun Hs2 H2 A2 r2 o2 g2 => f.ok r2 o2 (show bn env1 = .ok (q.1, q.2) from h2) fun Hs3 H3 A3 r3 o3 g3 => k Hs3 H3 A3 r3 o3 (g2.trans g3)
theorem eb_or (e : EvB K W tt bm) (f : EvB K W tu bn) : EvB K W (tOr tt tu) (bOr bm bn) := by
  intro σ env F Hs H A rr o
  unfold bOr
  cases h1 : bm env with
  | no => trivial
  | ex x e' => exact fun k Q => e.ex rr o h1 k _
  | ok p =>
    obtain ⟨b, env1⟩ := p
    simp only [Res.bind_ok]
    cases b with
    | true => exact fun Q k => e.ok rr o h1 fun Hs2 H2 A2 r2 o2 g2 => k Hs2 H2 A2 r2 o2 g2
    | false =>
      simp only [Bool.false_eq_true, if_false]
      cases h2 : bn env1 with
      | no => trivial
      | ex x e' => exact fun k Q => e.ok rr o h1 fun Hs2 H2 A2 r2 o2 g2 => f.ex r2 o2 h2 (k.after0 g2) _
      | ok q => exact fun Q k => e.ok rr o h1 fun Hs2 H2 A2 r2 o2 g2 => f.ok r2 o2 (show bn env1 = .ok (q.1, q.2) from h2) fun Hs3 H3 A3 r3 o3 g3 => k Hs3 H3 A3 r3 o3 (g2.trans g3)
def eNot (m : Exp) : Exp := eUn (fun d => match d with | .bl b => some (.bl (!b)) | _ => none) m
def eAnd (ma mb : Exp) : Exp := fun env => (ma env).bind fun p => match p.1 with
  | .bl b => if b then mb p.2 else .ok (.bl false, p.2)
  | _ => .no
def eOr (ma mb : Exp) : Exp := fun env => (ma env).bind fun p => match p.1 with
  | .bl b => if b then .ok (.bl true, p.2) else mb p.2
  | _ => .no
theorem Ok.un (o : Ok Hs H (B ++ (F ++ A))) : Ok Hs H (F ++ A) := o.less fun a => by simp only [List.count_append]; omega
theorem Go.un (g : Go Hs H A Hs' H' (B ++ A')) : Go Hs H A Hs' H' A' := g.less fun a c => by simp only [List.count_append]; omega
def eIf (b : Tst) (ma mb : Exp) : Exp := fun env => (b env).bind fun p => if p.1 then ma p.2 else mb p.2
inductive SR where
  | no | nx (env : Env) | rt (d : D) (env : Env) | bk (env : Env) | ct (env : Env) | ex (x : D) (env : Env)
abbrev Stm := Env → SR
def Pin (P : List Nat) (σ σ' : L2.St) : Prop := ∀ i, i ∈ P → σ'[i]? = σ[i]?
theorem Pin.refl {P : List Nat} : Pin P σ σ := fun _ _ => rfl
theorem Pin.trans {P : List Nat} {σ1 σ2 σ3 : L2.St} (a : Pin P σ1 σ2) (b : Pin P σ2 σ3) : Pin P σ1 σ3 := fun i h => (b i h).trans (a i h)
def NxS (K : PySem.W.Frag) (P : List Nat) (σ : L2.St) (F : List Addr) (Hs H : Hp) (A : List Addr) (R : L2.St → Hp → Prop) (env' : Env) : Prop :=
  ∀ σ' Hs' H' A', ER K Hs' H' σ' env' A' → Ok Hs' H' (F ++ A') → Go Hs H A Hs' H' A' → Pin P σ σ' → R σ' H'
def RtS (K : PySem.W.Frag) (P : List Nat) (σ : L2.St) (F : List Addr) (Hs H : Hp) (A : List Addr) (R : VK) (d : D) (env' : Env) : Prop :=
  ∀ v σ' Hs' H' B A', RL K Hs' H' [v] [d] B → ER K Hs' H' σ' env' A' → Ok Hs' H' (B ++ (F ++ A')) → Go Hs H A Hs' H' (B ++ A') → Pin P σ σ' → R v H'
def ExS (K : PySem.W.Frag) (W : Wh) (P : List Nat) (σ : L2.St) (F : List Addr) (Hs H : Hp) (A : List Addr) (x : D) (env' : Env) : Prop :=
  W.on ∧ ∀ c od σ' Hs' H' B A', W.XR Hs' H' x c od B → ER K Hs' H' σ' env' A' → Ok Hs' H' (B ++ (F ++ A')) → Go Hs H A Hs' H' (B ++ A') → Pin P σ σ' → W.W c od σ' H'
def PostS (K : PySem.W.Frag) (W : Wh) (P : List Nat) (t : TS) (D : Ends) (σ : L2.St) (F : List Addr) (Hs H : Hp) (A : List Addr) : SR → Prop
  | .no => True
  | .nx e => NxS K P σ F Hs H A D.nx e → t D σ H
  | .bk e => NxS K P σ F Hs H A D.bk e → t D σ H
  | .ct e => NxS K P σ F Hs H A D.ct e → t D σ H
  | .rt d e => RtS K P σ F Hs H A D.rt d e → t D σ H
  | .ex x e => ExS K W P σ F Hs H A x e → t D σ H
def StI (K : PySem.W.Frag) (W : Wh) (P : List Nat) (t : TS) (m : Stm) : Prop := ∀ σ env F Hs H A, ER K Hs H σ env A → Ok Hs H (F ++ A) → ∀ D, PostS K W P t D σ F Hs H A (m env)
variable {P : List Nat} {s u : TS} {sm um : Stm} {σ' : L2.St}
theorem NxS.after {R : L2.St → Hp → Prop} {e : Env} (k : NxS K P σ F Hs H A R e) (g : Go Hs H A Hs' H' A') (p : Pin P σ σ') : NxS K P σ' F Hs' H' A' R e :=
  fun s2 Hs2 H2 A2 r o g2 p2 => k s2 Hs2 H2 A2 r o (g.trans g2) (p.trans p2)
theorem RtS.after {R : VK} {e : Env} (k : RtS K P σ F Hs H A R d e) (g : Go Hs H A Hs' H' A') (p : Pin P σ σ') : RtS K P σ' F Hs' H' A' R d e :=
  fun v s2 Hs2 H2 B2 A2 rv r o g2 p2 => k v s2 Hs2 H2 B2 A2 rv r o (g.trans g2) (p.trans p2)
theorem ExS.after {x : D} {e : Env} (k : ExS K W P σ F Hs H A x e) (g : Go Hs H A Hs' H' A') (p : Pin P σ σ') : ExS K W P σ' F Hs' H' A' x e :=
  ⟨k.1, fun c od s2 Hs2 H2 B2 A2 xr r o g2 p2 => k.2 c od s2 Hs2 H2 B2 A2 xr r o (g.trans g2) (p.trans p2)⟩
theorem ExS.exO {x : D} {e : Env} (k : ExS K W P σ F Hs H A x e) : ExO K W σ F Hs H A x e := ⟨k.1, fun c od Hs2 H2 B2 A2 xr r o g => k.2 c od σ Hs2 H2 B2 A2 xr r o g Pin.refl⟩
theorem StI.go (h : StI K W P s sm) (r : ER K Hs H σ env A) (o : Ok Hs H (F ++ A)) (D : Ends) {R : SR} (e : sm env = R) : PostS K W P s D σ F Hs H A R := e ▸ h σ env F Hs H A r o D
def sPass : Stm := .nx
theorem st_pass : StI K W P tNext sPass := fun σ env F Hs H A r o D k => k σ Hs H A r o Go.refl Pin.refl
/-- raise c(..), c an own class: what is raised as a tree -/
def sRaise (c : Str) (ms : Arg) : Stm := fun env => match ms env with
  | .ok p => .ex (.exo c p.1) p.2
  | .no => .no
  | .ex x e => .ex x e
def sSeq (a b : Stm) : Stm := fun env => match a env with
  | .nx e => b e
  | r => r
theorem st_seq (a : StI K W P s sm) (b : StI K W P u um) : StI K W P (tSeq s u) (sSeq sm um) := by
  intro σ env F Hs H A r o D
  unfold sSeq
  cases h : sm env with
  | no => trivial
  | bk e => exact a.go r o { D with nx := u D } h
  | ct e => exact a.go r o { D with nx := u D } h
  | rt d e => exact a.go r o { D with nx := u D } h
  | ex x e => exact a.go r o { D with nx := u D } h
  | nx e =>
    have q := a.go r o { D with nx := u D } h
    dsimp only
    cases h2 : um e with
    | no => trivial
    | bk e2 => exact fun k => q fun s2 Hs2 H2 A2 r2 o2 g2 p2 => b.go r2 o2 D h2 (k.after g2 p2)
    | ct e2 => exact fun k => q fun s2 Hs2 H2 A2 r2 o2 g2 p2 => b.go r2 o2 D h2 (k.after g2 p2)
    | nx e2 => exact fun k => q fun s2 Hs2 H2 A2 r2 o2 g2 p2 => b.go r2 o2 D h2 (k.after g2 p2)
    | rt d e2 => exact fun k => q fun s2 Hs2 H2 A2 r2 o2 g2 p2 => b.go r2 o2 D h2 (k.after g2 p2)
    | ex x e2 => exact fun k => q fun s2 Hs2 H2 A2 r2 o2 g2 p2 => b.go r2 o2 D h2 (k.after g2 p2)
def sRet (m : Exp) : Stm := fun env => match m env with
  | .ok p => .rt p.1 p.2
  | .no => .no
  | .ex x e => .ex x e
theorem st_ret (e : EvI K W t m) : StI K W P (tRet t) (sRet m) := by
  intro σ env F Hs H A r o D
  unfold sRet
  cases h : m env with
  | no => trivial
  | ex x e' => exact fun k => e.ex r o h k.exO _
  | ok p => exact fun k => e.ok r o (show m env = .ok (p.1, p.2) from h) fun v Hs2 H2 B2 A2 rv r2 o2 g2 => k v σ Hs2 H2 B2 A2 rv r2 o2 g2 Pin.refl
def sRetN : Stm := fun env => .rt .non env
def sExpr (m : Exp) : Stm := fun env => match m env with
  | .ok p => .nx p.2
  | .no => .no
  | .ex x e => .ex x e
def sIf (b : Tst) (x y : Stm) : Stm := fun env => match b env with
  | .ok p => if p.1 then x p.2 else y p.2
  | .no => .no
  | .ex x e => .ex x e
theorem st_if (e : EvB K W tt bm) (a : StI K W P s sm) (b : StI K W P u um) : StI K W P (tIfS tt s u) (sIf bm sm um) := by
  intro σ env F Hs H A r o D
  unfold sIf
  cases h : bm env with
  | no => trivial
  | ex x e' => exact fun k => e.ex r o h k.exO _
  | ok p =>
    obtain ⟨c, env1⟩ := p
    dsimp only
    cases c with
    | true =>
      simp only [if_true]
      cases h2 : sm env1 with
      | no => trivial
      | nx e2 => exact fun k => e.ok r o h fun Hs2 H2 A2 r2 o2 g2 => iteT (a.go r2 o2 D h2 (k.after g2 Pin.refl))
      | bk e2 => exact fun k => e.ok r o h fun Hs2 H2 A2 r2 o2 g2 => iteT (a.go r2 o2 D h2 (k.after g2 Pin.refl))
      | ct e2 => exact fun k => e.ok r o h fun Hs2 H2 A2 r2 o2 g2 => iteT (a.go r2 o2 D h2 (k.after g2 Pin.refl))
      | rt d e2 => exact fun k => e.ok r o h fun Hs2 H2 A2 r2 o2 g2 => iteT (a.go r2 o2 D h2 (k.after g2 Pin.refl))
      | ex x e2 => exact fun k => e.ok r o h fun Hs2 H2 A2 r2 o2 g2 => iteT (a.go r2 o2 D h2 (k.after g2 Pin.refl))
    | false =>
      simp only [Bool.false_eq_true, if_false]
      cases h2 : um env1 with
      | no => trivial
      | nx e2 => exact fun k => e.ok r o h fun Hs2 H2 A2 r2 o2 g2 => iteF (b.go r2 o2 D h2 (k.after g2 Pin.refl))
      | bk e2 => exact fun k => e.ok r o h fun Hs2 H2 A2 r2 o2 g2 => iteF (b.go r2 o2 D h2 (k.after g2 Pin.refl))
      | ct e2 => exact fun k => e.ok r o h fun Hs2 H2 A2 r2 o2 g2 => iteF (b.go r2 o2 D h2 (k.after g2 Pin.refl))
      | rt d e2 => exact fun k => e.ok r o h fun Hs2 H2 A2 r2 o2 g2 => iteF (b.go r2 o2 D h2 (k.after g2 Pin.refl))
      | ex x e2 => exact fun k => e.ok r o h fun Hs2 H2 A2 r2 o2 g2 => iteF (b.go r2 o2 D h2 (k.after g2 Pin.refl))
abbrev Tgt := D → Env → Option Env
def GI (K : PySem.W.Frag) (P : List Nat) (g : TG) (f : Tgt) : Prop := ∀ σ env F Hs H A v d B env', RL K Hs H [v] [d] B → ER K Hs H σ env A → Ok Hs H (B ++ (F ++ A)) → f d env = some env' →
  ∀ Q : L2.St → Hp → Prop, (∀ σ' A', ER K Hs H σ' env' A' → (∀ a, A'.count a ≤ B.count a + A.count a) → Pin P σ σ' → Q σ' H) → g v σ H Q
def gN (i : Nat) : Tgt := fun d env => some (env.set i d)
theorem pin_set {i : Nat} (h : i ∉ P) (v : Option V) : Pin P σ (σ.set i v) := fun j hj => List.getElem?_set_ne fun e => h (by rw [e]; exact hj)
theorem ER.set (r : ER K Hs H σ env A) (rv : RL K Hs H [v] [d] B) (i : Nat) : ∃ A', ER K Hs H (σ.set i (some v)) (env.set i d) A' ∧ ∀ a, A'.count a ≤ B.count a + A.count a := by
  by_cases h : i < env.length
  · exact r.put rv h
  · have hl := r.length
    rw [List.set_eq_of_length_le (by omega), List.set_eq_of_length_le (by omega)]
    exact ⟨A, r, fun a => by omega⟩
theorem gi_name {i : Nat} (h : i ∉ P) : GI K P (gName i) (gN i) := by
  intro σ env F Hs H A v d B env' rv r o e Q k
  cases e
  obtain ⟨A', h1, h2⟩ := r.set rv i
  exact k _ A' h1 h2 (pin_set h _)
abbrev Tgts := List D → Env → Option Env
def GIs (K : PySem.W.Frag) (P : List Nat) (g : TGs) (f : Tgts) : Prop := ∀ σ env F Hs H A vs ds B env', RL K Hs H vs ds B → ER K Hs H σ env A → Ok Hs H (B ++ (F ++ A)) → f ds env = some env' →
  ∀ Q : L2.St → Hp → Prop, (∀ σ' A', ER K Hs H σ' env' A' → (∀ a, A'.count a ≤ B.count a + A.count a) → Pin P σ σ' → Q σ' H) → g vs σ H Q
def gsN : Tgts := fun ds env => match ds with
  | [] => some env
  | _ => none
def gsC (f : Tgt) (fs : Tgts) : Tgts := fun ds env => match ds with
  | [] => none
  | d :: r => (f d env).bind fun e => fs r e
theorem gis_nil : GIs K P gNil gsN := by
  intro σ env F Hs H A vs ds B env' rv r o e Q k
  cases ds with
  | nil => cases rv; cases e; exact ⟨rfl, k σ A r (fun a => by omega) Pin.refl⟩
  | cons d ds => cases e
theorem gis_cons {g : TG} {gs : TGs} {f : Tgt} {fs : Tgts} (h : GI K P g f) (hs : GIs K P gs fs) : GIs K P (gCons g gs) (gsC f fs) := by
  intro σ env F Hs H A vs ds B env' rv r o e Q k
  cases ds with
  | nil => cases e
  | cons d ds =>
    cases vs with
    | nil => cases rv
    | cons v vs =>
      obtain ⟨B1, B2, rfl, r1, r2⟩ := rv.un
      unfold gsC at e
      cases e1 : f d env with
      | none => simp [e1] at e
      | some env1 =>
        simp [e1] at e
        refine ⟨v, vs, rfl, h σ env (B2 ++ F) Hs H A v d B1 env1 r1 r (o.less fun a => by simp only [List.count_append]; omega) e1 _ fun s2 A2 q1 q2 p1 => ?_⟩
        refine hs s2 env1 F Hs H A2 vs ds B2 env' r2 q1 (o.less fun a => by have := q2 a; simp only [List.count_append]; omega) e Q fun s3 A3 q3 q4 p3 => k s3 A3 q3 (fun a => by have := q2 a; have := q4 a; simp only [List.count_append]; omega) (p1.trans p3)
def gT (n : Nat) (fs : Tgts) : Tgt := fun d env => match d with
  | .tup ds => if ds.length = n then fs ds env else none
  | _ => none
theorem gi_tup {n : Nat} {gs : TGs} {fs : Tgts} (hs : GIs K P gs fs) : GI K P (gTup K n gs) (gT n fs) := by
  intro σ env F Hs H A v d B env' rv r o e Q k
  cases d with
  | tup ds =>
    unfold gT at e
    dsimp only at e
    split at e
    · rename_i hn
      cases rv with
      | sc h _ => cases v <;> simp [scD] at h
      | @tup a xs es A1 vs ds' B1 h1 h2 h3 =>
        cases h3
        refine ⟨a, xs, rfl, ext_t o.sub h1, by rw [h2.length, hn], hs σ env F Hs H A xs ds A1 env' h2 r (by simpa using o) e Q fun s2 A2 q1 q2 p => k s2 A2 q1 (fun a => by have := q2 a; simp only [List.count_append]; omega) p⟩
    · cases e
  | _ => cases e
def sAsg (m : Exp) (f : Tgt) : Stm := fun env => match m env with
  | .ok p => (match f p.1 p.2 with
    | some e => .nx e
    | none => .no)
  | .no => .no
  | .ex x e => .ex x e
theorem st_asg {g : TG} {f : Tgt} (e : EvI K W t m) (h : GI K P g f) : StI K W P (tAsg t g) (sAsg m f) := by
  intro σ env F Hs H A r o D
  unfold sAsg
  cases h1 : m env with
  | no => trivial
  | ex x e' => exact fun k => e.ex r o h1 k.exO _
  | ok p =>
    obtain ⟨d, env1⟩ := p
    dsimp only
    cases h2 : f d env1 with
    | none => trivial
    | some env2 =>
      exact fun k => e.ok r o h1 fun v Hs2 H2 B2 A2 rv r2 o2 g2 => h σ env1 F Hs2 H2 A2 v d B2 env2 rv r2 o2 h2 _ fun s3 A3 q1 q2 p => k s3 Hs2 H2 A3 q1 (o2.less fun a => by have := q2 a; simp only [List.count_append]; omega) (g2.less fun a c => by have := q2 a; simp only [List.count_append]; omega) p
/-- a, b = e1, e2 -/
def sPar (i j : Nat) (ms : Arg) : Stm := fun env => match ms env with
  | .ok p => (match p.1 with
    | [x, y] => .nx ((p.2.set i x).set j y)
    | _ => .no)
  | .no => .no
  | .ex x e => .ex x e
theorem st_par {i j : Nat} {ta : TA} {ms : Arg} (hi : i ∉ P) (hj : j ∉ P) (e : EvA K W ta ms) : StI K W P (tPar i j ta) (sPar i j ms) := by
  intro σ env F Hs H A r o D
  unfold sPar
  cases h1 : ms env with
  | no => trivial
  | ex x e' => exact fun k => e.ex r o h1 k.exO _
  | ok p =>
    obtain ⟨ds, env1⟩ := p
    dsimp only
    split
    · rename_i x y
      intro k
      refine e.ok r o h1 fun vs Hs2 H2 B2 A2 rv r2 o2 g2 => ?_
      cases vs with
      | nil => cases rv
      | cons v vs =>
        obtain ⟨B3, B4, rfl, q1, q2⟩ := rv.un
        obtain ⟨w, rfl, q2⟩ := q2.one
        obtain ⟨A3, p1, p2⟩ := r2.set q1 i
        obtain ⟨A4, p3, p4⟩ := p1.set q2 j
        exact ⟨v, w, rfl, k _ Hs2 H2 A4 p3 (o2.less fun a => by have := p2 a; have := p4 a; simp only [List.count_append]; omega) (g2.less fun a c => by have := p2 a; have := p4 a; simp only [List.count_append]; omega) ((pin_set hi _).trans (pin_set hj _))⟩
    · trivial
end
end Fl
namespace Fl
open PySem PySem.Spec PyProof.Rows L2
section
variable {K : PySem.W.Frag} {W : Wh} {σ σ' : L2.St} {env env' : Env} {F A A' B C : List Addr} {Hs H Hs' H' Hs'' H'' Hs0 : Hp} {t ta tb : TE} {m ma mb : Exp} {d d1 d2 : D} {v : V} {tt tu : TT} {bm bn : Tst} {P : List Nat} {s u : TS} {sm um : Stm}
theorem RL.setAt : ∀ {xs : List V} {ds : List D} {A : List Addr} {j : Nat}, RL K Hs H xs ds A → RL K Hs H [v] [d] B → ∃ A', RL K Hs H (xs.set j v) (ds.set j d) A' ∧ ∀ a, A'.count a ≤ B.count a + A.count a
  | [], _, A, j, r, _ => ⟨A, by cases r; exact .nil, fun a => by omega⟩
  | x :: xs, [], A, j, r, _ => by cases r
  | x :: xs, e :: ds, A, 0, r, q => by
    obtain ⟨B1, C1, rfl, r1, r2⟩ := r.un
    exact ⟨B ++ C1, q.cons r2, fun a => by simp only [List.count_append]; omega⟩
  | x :: xs, e :: ds, A, j + 1, r, q => by
    obtain ⟨B1, C1, rfl, r1, r2⟩ := r.un
    obtain ⟨A', h1, h2⟩ := RL.setAt (j := j) r2 q
    exact ⟨B1 ++ A', r1.cons h1, fun a => by have := h2 a; simp only [List.count_append]; omega⟩
theorem RL.lstO_inv {x : V} {ds : List D} (r : RL K Hs H [x] [.lst true ds] B) : ∃ p xs A, x = .ref p ∧ H p = some (.lst xs) ∧ RL K Hs H xs ds A ∧ B = p :: A := by
  cases r with
  | sc h _ => cases x <;> simp [scD] at h
  | @lstO a xs es A vs ds B h1 h2 h3 => cases h3; exact ⟨a, xs, A, rfl, h1, h2, by simp⟩
theorem RL.tup_inv {x : V} {ds : List D} (r : RL K Hs H [x] [.tup ds] B) : ∃ p xs, x = .ref p ∧ SqT K Hs p xs ∧ RL K Hs H xs ds B := by
  cases r with
  | sc h _ => cases x <;> simp [scD] at h
  | tup h1 h2 h3 => cases h3; exact ⟨_, _, rfl, h1, by simpa using h2⟩
/-- an owned list gets other items -/
theorem Ok.wr {p : Addr} (o : Ok Hs H (p :: (B ++ C))) {u : HO} (h : ∀ a, A.count a ≤ B.count a) : Ok Hs (upd H p u) (p :: (A ++ C)) := by
  refine ⟨fun a w q => ?_, fun a => ?_, fun a c => o.off a ?_, fun a c => ?_⟩
  · by_cases e : a = p
    · subst e; rw [o.off a (by simp)] at q; cases q
    · rw [upd_ne e]; exact o.sub a w q
  · have := o.nd a; have := h a; simp only [List.count_cons, List.count_append] at *; omega
  · have := h a; simp only [List.count_cons, List.count_append] at *; omega
  · by_cases e : a = p
    · subst e; rw [upd_same]; simp
    · rw [upd_ne e]; exact o.has a (by have := h a; simp only [List.count_cons, List.count_append] at *; omega)
theorem Go.wr {p : Addr} (hp : 0 < A.count p) (x : HO) : Go Hs H A Hs (upd H p x) A := by
  refine ⟨fun a w h => h, fun a w h c => ?_, fun a w h k => (by rw [k] at h; cases h), fun a c => .inl c⟩
  rw [upd_ne (fun e => by subst e; omega)]
  exact h
theorem RL.wr {vs : List V} {ds : List D} (r : RL K Hs H vs ds A) {p : Addr} (hp : A.count p = 0) (x : HO) : RL K Hs (upd H p x) vs ds A :=
  r.mono (fun a o h => h) fun a o c h => by rw [upd_ne (fun e => by subst e; omega)]; exact h
theorem ER.wr (r : ER K Hs H σ env A) {p : Addr} (hp : A.count p = 0) (x : HO) : ER K Hs (upd H p x) σ env A :=
  r.mono (fun a o h => h) fun a o c h => by rw [upd_ne (fun e => by subst e; omega)]; exact h
/-- x[e1] = e, x a name of an owned list -/
def sSetIx (i : Nat) (me mi : Exp) : Stm := fun env => match me env with
  | .no => .no
  | .ex x e => .ex x e
  | .ok p => if live p.2 i then (match mi p.2 with
    | .no => .no
    | .ex x e => .ex x e
    | .ok q => match q.1, q.2[i]? with
      | .int k, some (.lst true ds) => (match ixN ds.length k with
        | some j => .nx (q.2.set i (.lst true (ds.set j p.1)))
        | none => .no)
      | _, _ => .no) else .no
theorem st_setIx {i : Nat} {te ti : TE} {me mi : Exp} (e : EvI K W te me) (ei : EvI K W ti mi) : StI K W P (tAsg te (gSub (tVar i) ti rSetL)) (sSetIx i me mi) := by
  intro σ env F Hs H A r o D
  unfold sSetIx
  cases h1 : me env with
  | no => trivial
  | ex x e' => exact fun k => e.ex r o h1 k.exO _
  | ok p =>
    obtain ⟨d, env1⟩ := p
    dsimp only
    cases hl : live env1 i with
    | false => trivial
    | true =>
    rw [if_pos rfl]
    cases h2 : mi env1 with
    | no => trivial
    | ex x e' =>
      intro k
      refine e.ok r o h1 fun v Hs1 H1 B1 A1 rv r1 o1 g1 => ?_
      obtain ⟨w, hw⟩ := live_at r1 hl
      exact ⟨w, hw, ei.ex r1 o1.un h2 (k.exO.after0 g1.un) _⟩
    | ok q =>
      obtain ⟨d2, env2⟩ := q
      dsimp only
      split
      · rename_i kk ds hc
        cases hj : ixN ds.length kk with
        | none => trivial
        | some j =>
          dsimp only
          intro k
          refine e.ok r o h1 fun v Hs1 H1 B1 A1 rv r1 o1 g1 => ?_
          obtain ⟨w, hw⟩ := live_at r1 hl
          refine ⟨w, hw, ei.ok (F := B1 ++ F) r1 (o1.less fun a => by simp only [List.count_append]; omega) h2 fun y Hs2 H2 B2 A2 ry r2 o2 g2 => ?_⟩
          have hlt := (List.getElem?_eq_some_iff.mp hc).1
          obtain ⟨w', B0, A0, e1, e2, e3, e4⟩ := r2.at hc (by simp)
          rw [hw] at e1; cases e1
          obtain ⟨p, xs, Ax, rfl, hp, hx, rfl⟩ := e2.lstO_inv
          have rv2 : RL K Hs2 H2 [v] [d] B1 := rv.go g2 fun a c => by have := o1.nd a; simp only [List.count_append] at this; omega
          have oo : Ok Hs2 H2 (p :: ((B1 ++ Ax) ++ (F ++ A0))) := o2.less fun a => by have := e4 a; simp only [List.count_cons, List.count_append] at *; omega
          have np := oo.nd p
          simp only [List.count_cons, List.count_append, beq_self_eq_true, if_true] at np
          obtain ⟨A', s1, s2⟩ := RL.setAt (j := j) (hx.wr (p := p) (x := .lst (xs.set j v)) (by omega)) (rv2.wr (p := p) (by omega) (.lst (xs.set j v)))
          have rl : RL K Hs2 (upd H2 p (.lst (xs.set j v))) [.ref p] [.lst true (ds.set j d)] (p :: A') := by simpa using RL.lstO upd_same s1 RL.nil
          obtain ⟨A3, p1, p2⟩ := ER.give (e3.wr (p := p) (by omega) (.lst (xs.set j v))) rl hw hlt
          refine ⟨p, xs, kk, j, rfl, ry.int, hp, by rw [hx.length]; exact hj, ?_⟩
          refine k σ Hs2 _ A3 p1 ((oo.wr (A := A') (B := B1 ++ Ax) fun a => by have := s2 a; simp only [List.count_append]; omega).less fun a => by have := p2 a; simp only [List.count_cons, List.count_append] at *; omega) ?_ Pin.refl
          have g3 : Go Hs H A Hs2 H2 (p :: ((B1 ++ Ax) ++ A0)) := (g1.trans ((g2.frame (F := B1)).less fun a c => by have := e4 a; simp only [List.count_cons, List.count_append] at *; omega))
          exact (g3.trans (Go.wr (by simp) _)).less fun a c => by have := p2 a; have := s2 a; simp only [List.count_cons, List.count_append] at *; omega
      · trivial
/-- x.append(e) as a statement -/
def isLst (env : Env) (i : Nat) : Bool := match env[i]? with
  | some (.lst _ _) => true
  | _ => false
def sApp (i : Nat) (me : Exp) : Stm := fun env => if isLst env i then (match me env with
  | .no => .no
  | .ex x e => .ex x e
  | .ok p => match p.2[i]? with
    | some (.lst true ds) => if ds.length < 100000 then .nx (p.2.set i (.lst true (ds ++ [p.1]))) else .no
    | _ => .no) else .no
theorem isLst_at (r : ER K Hs H σ env A) (s : ∀ a o, Hs a = some o → H a = some o) {i : Nat} (h : isLst env i = true) : ∃ p, σ[i]? = some (some (.ref p)) ∧ ∃ xs, SqL K H p xs := by
  unfold isLst at h
  split at h
  · rename_i o ds e
    obtain ⟨v, B, A', e1, e2, _⟩ := r.at e (by simp)
    obtain ⟨p, xs, B', rfl, hq, h2, h3⟩ := e2.items (ds := ds) s rfl
    refine ⟨p, e1, ?_⟩
    cases o with
    | true => obtain ⟨p', xs', _, e, hp, _⟩ := e2.lstO_inv; cases e; exact ⟨xs', .of hp⟩
    | false =>
      cases e2 with
      | sc h _ => simp [scD] at h
      | lstS h1 _ _ => exact ⟨_, .of (s _ _ h1)⟩
  · cases h
theorem st_app {i : Nat} {te : TE} {me : Exp} (e : EvI K W te me) : StI K W P (tDrop (tBM K "list" rAppend (tVar i) (tCons te tNil))) (sApp i me) := by
  intro σ env F Hs H A r o D
  unfold sApp
  cases hl : isLst env i with
  | false => trivial
  | true =>
  rw [if_pos rfl]
  obtain ⟨p, hw, ty⟩ := isLst_at r o.sub hl
  cases h1 : me env with
  | no => trivial
  | ex x e' => exact fun k => ⟨.ref p, hw, .inl ⟨rfl, ty⟩, e.ex r o h1 k.exO _⟩
  | ok q =>
    obtain ⟨d, env2⟩ := q
    dsimp only
    split
    · rename_i ds hc
      split
      · rename_i hz
        intro k
        refine ⟨.ref p, hw, .inl ⟨rfl, ty⟩, e.ok r o h1 fun v Hs2 H2 B1 A2 rv r2 o2 g2 => ?_⟩
        have hlt := (List.getElem?_eq_some_iff.mp hc).1
        obtain ⟨w', B0, A0, e1, e2, e3, e4⟩ := r2.at hc (by simp)
        rw [hw] at e1; cases e1
        obtain ⟨p', xs, Ax, ep, hp, hx, rfl⟩ := e2.lstO_inv
        cases ep
        have oo : Ok Hs2 H2 (p :: ((B1 ++ Ax) ++ (F ++ A0))) := o2.less fun a => by have := e4 a; simp only [List.count_cons, List.count_append] at *; omega
        have np := oo.nd p
        simp only [List.count_cons, List.count_append, beq_self_eq_true, if_true] at np
        have s1 : RL K Hs2 (upd H2 p (.lst (xs ++ [v]))) (xs ++ [v]) (ds ++ [d]) (Ax ++ B1) := (hx.wr (p := p) (x := .lst (xs ++ [v])) (by omega)).app (rv.wr (p := p) (by omega) (.lst (xs ++ [v])))
        have rl : RL K Hs2 (upd H2 p (.lst (xs ++ [v]))) [.ref p] [.lst true (ds ++ [d])] (p :: (Ax ++ B1)) := by simpa using RL.lstO upd_same s1 RL.nil
        obtain ⟨A3, p1, p2⟩ := ER.give (e3.wr (p := p) (by omega) (.lst (xs ++ [v]))) rl hw hlt
        refine ⟨p, xs, v, rfl, rfl, hp, by rw [hx.length]; exact Nat.lt_of_lt_of_le hz (by decide), ?_⟩
        refine k σ Hs2 _ A3 p1 ((oo.wr (A := Ax ++ B1) (B := B1 ++ Ax) fun a => by simp only [List.count_append]; omega).less fun a => by have := p2 a; simp only [List.count_cons, List.count_append] at *; omega) ?_ Pin.refl
        have g3 : Go Hs H A Hs2 H2 (p :: ((B1 ++ Ax) ++ A0)) := g2.less fun a c => by have := e4 a; simp only [List.count_cons, List.count_append] at *; omega
        exact (g3.trans (Go.wr (by simp) _)).less fun a c => by have := p2 a; simp only [List.count_cons, List.count_append] at *; omega
      · trivial
    · trivial
def addD : D → D → Option D
  | .int i, .int j => some (.int (i + j))
  | .str x, .str y => if x.length + y.length ≤ 1000000 then some (.str (x ++ y)) else none
  | .lst _ xs, .lst _ ys => if xs.length + ys.length ≤ 100000 then some (.lst true (xs ++ ys)) else none
  | _, _ => none
def rAddG : R2 := fun x y H Q => rI0 (fun i j => .int (i + j)) x y H Q ∨ (∃ i j, x = .str i ∧ y = .str j ∧ i.length + j.length ≤ sizeLine ∧ Q (.str (i ++ j)) H) ∨ rCat x y H Q
/-- what a two-place operation gives: a value, perhaps new -/
def OpN (K : PySem.W.Frag) (r : R2) (f : D → D → Option D) : Prop := ∀ Hs H x y d1 d2 B1 B2 C d, RL K Hs H [x] [d1] B1 → RL K Hs H [y] [d2] B2 → Ok Hs H (B2 ++ (B1 ++ C)) → f d1 d2 = some d →
  ∀ Q : VK, (∀ v Hs' H' B, RL K Hs' H' [v] [d] B → Ok Hs' H' (B ++ C) → Go Hs H (B2 ++ B1) Hs' H' B → Q v H') → r x y H Q
theorem ev_binN {r : R2} {f : D → D → Option D} (hr : OpN K r f) (ea : EvI K W ta ma) (eb : EvI K W tb mb) : EvI K W (tOp r ta tb) (eBin f ma mb) := by
  intro σ env F Hs H A rr o
  unfold eBin
  cases h1 : ma env with
  | no => trivial
  | ex x e => exact fun k Q => ea.ex rr o h1 k _
  | ok p =>
    obtain ⟨d1, env1⟩ := p
    simp only [Res.bind_ok]
    cases h2 : mb env1 with
    | no => trivial
    | ex x e => exact fun k Q => EvI.two_ex2 ea eb rr o h1 h2 k
    | ok q =>
      obtain ⟨d2, env2⟩ := q
      simp only [Res.bind_ok]
      cases h3 : f d1 d2 with
      | none => trivial
      | some d =>
        intro Q k
        refine EvI.two ea eb rr o h1 h2 fun x y Hs2 H2 B1 B2 A2 rx ry r2 o2 g2 => ?_
        refine hr Hs2 H2 x y d1 d2 B1 B2 (F ++ A2) d rx ry (o2.less fun a => by simp only [List.count_append]; omega) h3 Q fun v Hs3 H3 B rv o3 g3 => k v Hs3 H3 B A2 rv (r2.mono g3.hs fun a w c h => g3.keep a w h ?_) o3 ?_
        · have := o2.nd a; simp only [List.count_append] at *; omega
        · have g4 := (g3.frame (F := A2)).more (B := B2 ++ (B1 ++ A2)) fun a c => by simp only [List.count_append] at *; omega
          exact (g2.trans g4).less fun a c => by simp only [List.count_append] at *; omega
theorem RL.lst_inv {x : V} {ow : Bool} {ds : List D} (r : RL K Hs H [x] [.lst ow ds] B) (s : ∀ a o, Hs a = some o → H a = some o) : ∃ p xs A, x = .ref p ∧ H p = some (.lst xs) ∧ RL K Hs H xs ds A ∧ ∀ a, A.count a ≤ B.count a := by
  cases r with
  | sc h _ => cases x <;> simp [scD] at h
  | @lstO a xs es A vs ds B h1 h2 h3 => exact ⟨a, xs, A, rfl, h1, h2, fun a => by rw [List.count_cons, List.count_append]; omega⟩
  | @lstS a xs es vs ds B h1 h2 h3 => exact ⟨a, xs, [], rfl, s _ _ h1, h2, fun a => by simp⟩
theorem sz1M {n : Nat} (h : n ≤ 1000000) : n ≤ sizeLine := Nat.le_trans h (by decide)
theorem on_add : OpN K rAddG addD := by
  intro Hs H x y d1 d2 B1 B2 C d rx ry o e Q k
  have less : ∀ a, C.count a ≤ (B2 ++ (B1 ++ C)).count a := fun a => by simp only [List.count_append]; omega
  unfold addD at e
  split at e
  · rename_i i j
    cases e
    exact .inl ⟨i, j, rx.int, ry.int, k _ Hs H [] (.sc rfl .nil) (by simpa using o.less less) (Go.refl.less fun a c => by simp at c)⟩
  · rename_i i j
    split at e
    · rename_i hz
      cases e
      exact .inr (.inl ⟨i, j, rx.strv, ry.strv, sz1M hz, k _ Hs H [] (.sc rfl .nil) (by simpa using o.less less) (Go.refl.less fun a c => by simp at c)⟩)
    · cases e
  · rename_i o1 xs o2 ys
    split at e
    · rename_i hz
      cases e
      obtain ⟨p, vs, A1, rfl, hp, r1, c1⟩ := rx.lst_inv o.sub
      obtain ⟨q, ws, A2, rfl, hq, r2, c2⟩ := ry.lst_inv o.sub
      refine .inr (.inr ⟨p, q, vs, ws, rfl, rfl, hp, hq, by rw [r1.length, r2.length]; exact sz1000 hz, fun n hn => ?_⟩)
      have oo : Ok Hs H ((A1 ++ A2) ++ C) := o.less fun a => by have := c1 a; have := c2 a; simp only [List.count_append]; omega
      refine k (.ref n) Hs _ (n :: (A1 ++ A2)) ?_ (oo.newO hn _) ?_
      · simpa using RL.lstO upd_same ((r1.app r2).newO hn (.lst (vs ++ ws))) RL.nil
      · exact (Go.newO (A := B2 ++ B1) hn _).less fun a c => by have := c1 a; have := c2 a; simp only [List.count_cons, List.count_append] at *; omega
    · cases e
  · cases e
def mulD : D → D → Option D
  | .int i, .int j => if i.natAbs.log2 + j.natAbs.log2 < 1000000 then some (.int (i * j)) else none
  | .lst _ xs, .int k => if k ≤ 1000000 ∧ -1000000 ≤ k ∧ xs.length * k.toNat ≤ 100000 ∧ ownL xs = false then some (.lst true (List.replicate k.toNat xs).flatten) else none
  | _, _ => none
def rMulG : R2 := fun x y H Q => rI CMulW (fun i j => .int (i * j)) x y H Q ∨ rRep x y H Q
theorem RL.rep {xs : List V} {ds : List D} (r : RL K Hs H xs ds []) : ∀ k : Nat, RL K Hs H (List.replicate k xs).flatten (List.replicate k ds).flatten []
  | 0 => .nil
  | k + 1 => by
    rw [List.replicate_succ, List.replicate_succ, List.flatten_cons, List.flatten_cons]
    exact r.app (RL.rep r k)
theorem on_mul : OpN K rMulG mulD := by
  intro Hs H x y d1 d2 B1 B2 C d rx ry o e Q k
  have less : ∀ a, C.count a ≤ (B2 ++ (B1 ++ C)).count a := fun a => by simp only [List.count_append]; omega
  unfold mulD at e
  split at e
  · rename_i i j
    split at e
    · rename_i hz
      cases e
      exact .inl ⟨i, j, rx.int, ry.int, hz, k _ Hs H [] (.sc rfl .nil) (by simpa using o.less less) (Go.refl.less fun a c => by simp at c)⟩
    · cases e
  · rename_i o1 xs j
    split at e
    · rename_i hz
      cases e
      obtain ⟨p, vs, A1, rfl, hp, r1, c1⟩ := rx.lst_inv o.sub
      have : A1 = [] := r1.own0 hz.2.2.2
      subst this
      refine .inr ⟨p, j, vs, rfl, ry.int, hp, by have := hz.2.1; omega, by have := hz.1; omega, by rw [r1.length]; exact sz1000 hz.2.2.1, fun n hn => ?_⟩
      have oo : Ok Hs H C := o.less less
      refine k (.ref n) Hs _ [n] ?_ (oo.newO hn _) ?_
      · simpa using RL.lstO upd_same ((r1.rep j.toNat).newO hn (.lst (List.replicate j.toNat vs).flatten)) RL.nil
      · exact (Go.newO (A := B2 ++ B1) hn _).less fun a c => by simp only [List.count_cons, List.count_append, List.count_nil] at *; omega
    · cases e
  · cases e
theorem us_neg : UnS K (rU fun i => .int (-i)) (fun d => match d with | .int i => some (.int (-i)) | _ => none) := by
  intro Hs H x d1 B1 d s rx e
  cases d1 <;> simp at e
  subst e
  exact ⟨.int _, rfl, fun Q q => ⟨_, rx.int, q⟩⟩
def fNeg : D → Option D := fun d => match d with | .int i => some (.int (-i)) | _ => none
/-- the iterator J gives values that bear ds, whatever of the shared heap has grown since Hs0 -/
def Gives (K : PySem.W.Frag) (J : It) (ds : List D) (Hs0 : Hp) : Prop := ∃ (G : Hp → Prop) (Y : Nat → Hp → V → Hp → Prop), Walk J ds.length G Y ∧
  (∀ Hs H : Hp, (∀ a o, Hs0 a = some o → Hs a = some o) → (∀ a o, Hs a = some o → H a = some o) → G H) ∧
  ∀ (i : Nat) (d : D) (Hs H : Hp) (x : V) (H' : Hp), ds[i]? = some d → (∀ a o, Hs0 a = some o → Hs a = some o) → (∀ a o, Hs a = some o → H a = some o) → Y i H x H' →
    ∃ Hs' : Hp, Go Hs H [] Hs' H' [] ∧ (∀ a o, Hs' a = some o → H' a = some o) ∧ RL K Hs' H' [x] [d] []
abbrev Itm := Env → Res (List D × Env)
def PostI (K : PySem.W.Frag) (W : Wh) (wi : TI) (σ : L2.St) (F : List Addr) (Hs H : Hp) (A : List Addr) : Res (List D × Env) → Prop
  | .no => True
  | .ok p => ∀ R : It → Hp → Prop, (∀ J Hs' H' A', Gives K J p.1 Hs' → ER K Hs' H' σ p.2 A' → Ok Hs' H' (F ++ A') → Go Hs H A Hs' H' A' → R J H') → wi σ H R
  | .ex x env' => ExO K W σ F Hs H A x env' → ∀ R : It → Hp → Prop, wi σ H R
def ItI (K : PySem.W.Frag) (W : Wh) (wi : TI) (m : Itm) : Prop := ∀ σ env F Hs H A, ER K Hs H σ env A → Ok Hs H (F ++ A) → PostI K W wi σ F Hs H A (m env)
theorem ItI.ok {wi : TI} {mi : Itm} {ds : List D} (e : ItI K W wi mi) (r : ER K Hs H σ env A) (o : Ok Hs H (F ++ A)) (h : mi env = .ok (ds, env')) {R : It → Hp → Prop}
    (k : ∀ J Hs' H' A', Gives K J ds Hs' → ER K Hs' H' σ env' A' → Ok Hs' H' (F ++ A') → Go Hs H A Hs' H' A' → R J H') : wi σ H R := by
  have := e σ env F Hs H A r o
  rw [h] at this
  exact this R k
theorem ItI.ex {wi : TI} {mi : Itm} {x : D} (e : ItI K W wi mi) (r : ER K Hs H σ env A) (o : Ok Hs H (F ++ A)) (h : mi env = .ex x env') (k : ExO K W σ F Hs H A x env') (R : It → Hp → Prop) : wi σ H R := by
  have := e σ env F Hs H A r o
  rw [h] at this
  exact this k R
def rangeD (lo : Int) (n : Nat) : List D := (List.range n).map fun i => .int (lo + (i : Nat))
theorem rangeD_len (lo : Int) (n : Nat) : (rangeD lo n).length = n := by simp [rangeD]
theorem gives_range (lo : Int) (n : Nat) : Gives K (L2.Itr lo n) (rangeD lo n) Hs0 := by
  refine ⟨fun _ => True, YFn fun i => .int (lo + i), by rw [rangeD_len]; exact walk_range, fun _ _ _ _ => trivial, fun i d Hs H x H' hd _ s y => ?_⟩
  obtain ⟨rfl, rfl⟩ := y
  refine ⟨Hs, Go.refl, s, .sc ?_ .nil⟩
  unfold rangeD at hd
  rw [List.getElem?_map] at hd
  cases e : (List.range n)[i]? with
  | none => rw [e] at hd; cases hd
  | some j =>
    rw [e] at hd
    have := (List.getElem?_eq_some_iff.mp e).2
    simp at this
    subst this
    exact hd
theorem gives_list {a : Addr} {xs : List V} {ds : List D} (hx : SqL K Hs0 a xs) (r : RL K Hs0 H xs ds []) : Gives K (Itl K a) ds Hs0 := by
  refine ⟨fun H => SqL K H a xs, YAt xs, by rw [← r.length]; exact walk_list, fun Hs H e s => ext_l s (ext_l e hx), fun i d Hs H2 x H' hd e s y => ?_⟩
  obtain ⟨rfl, hi⟩ := y
  obtain ⟨v, h1, h2⟩ := r.at0 hd
  rw [hi] at h1; cases h1
  exact ⟨Hs, Go.refl, s, h2.mono e fun a o c => by simp at c⟩
def iR1 (ms : Arg) : Itm := fun env => (ms env).bind fun p => match p.1 with
  | [.int n] => if -1000000 ≤ n ∧ n ≤ 1000000 then .ok (rangeD 0 n.toNat, p.2) else .no
  | _ => .no
def iR2 (ms : Arg) : Itm := fun env => (ms env).bind fun p => match p.1 with
  | [.int a, .int b] => if -1000000 ≤ a ∧ a ≤ 1000000 ∧ -1000000 ≤ b ∧ b ≤ 1000000 then .ok (rangeD a (b - a).toNat, p.2) else .no
  | _ => .no
theorem it_R1 {ta : TA} {ms : Arg} (e : EvA K W ta ms) : ItI K W (iRng1 ta) (iR1 ms) := by
  intro σ env F Hs H A r o
  unfold iR1
  cases h1 : ms env with
  | no => trivial
  | ex x e' => exact fun k R => e.ex r o h1 k _
  | ok p =>
    obtain ⟨ds, env1⟩ := p
    simp only [Res.bind_ok]
    split
    · rename_i n
      split
      · rename_i hn
        intro R k
        refine e.ok r o h1 fun vs Hs2 H2 B2 A2 rv r2 o2 g2 => ?_
        obtain ⟨v, rfl, rv⟩ := rv.one
        exact ⟨n, by rw [rv.int], by omega, by omega, k _ Hs2 H2 A2 (gives_range 0 n.toNat) r2 o2.un g2.un⟩
      · trivial
    · trivial
theorem it_R2 {ta : TA} {ms : Arg} (e : EvA K W ta ms) : ItI K W (iRng2 ta) (iR2 ms) := by
  intro σ env F Hs H A r o
  unfold iR2
  cases h1 : ms env with
  | no => trivial
  | ex x e' => exact fun k R => e.ex r o h1 k _
  | ok p =>
    obtain ⟨ds, env1⟩ := p
    simp only [Res.bind_ok]
    split
    · rename_i i j
      split
      · rename_i hn
        intro R k
        refine e.ok r o h1 fun vs Hs2 H2 B2 A2 rv r2 o2 g2 => ?_
        obtain ⟨v, w, _, _, rfl, rv, rw'⟩ := rv.two
        exact ⟨i, j, by rw [rv.int, rw'.int], ⟨by omega, by omega, by omega, by omega⟩, k _ Hs2 H2 A2 (gives_range i (j - i).toNat) r2 o2.un g2.un⟩
      · trivial
    · trivial
/-- the items of a list that is evaluated: it is shared from then on -/
def iL (m : Exp) : Itm := fun env => (m env).bind fun p => match p.1 with
  | .lst _ ds => .ok (shL ds, p.2)
  | .frz ds => .ok (ds, p.2)
  | _ => .no
theorem it_L (e : EvI K W t m) : ItI K W (iList K t) (iL m) := by
  intro σ env F Hs H A r o
  unfold iL
  cases h1 : m env with
  | no => trivial
  | ex x e' => exact fun k R => e.ex r o h1 k _
  | ok p =>
    obtain ⟨d, env1⟩ := p
    simp only [Res.bind_ok]
    cases d with
    | lst ow ds =>
      intro R k
      refine e.ok r o h1 fun v Hs2 H2 B2 A2 rv r2 o2 g2 => ?_
      have s1 := rv.share1 o2
      have : sh (.lst ow ds) = .lst false (shL ds) := by simp [sh]
      rw [this] at s1
      cases s1 with
      | sc h _ => cases v <;> simp [scD] at h
      | @lstS a xs es vs ds' B h1 h2 h3 =>
        exact ⟨a, rfl, ⟨xs, ext_l o2.pool.sub (.of h1)⟩, k _ _ _ A2 (gives_list (.of h1) h2) (r2.pool o2) o2.pool (g2.pool o2)⟩
    | frz ds =>
      intro R k
      refine e.ok r o h1 fun v Hs2 H2 B2 A2 rv r2 o2 g2 => ?_
      cases rv with
      | sc h _ => cases v <;> simp [scD] at h
      | @frz a xs es vs ds' B h1 h2 h3 =>
        cases h3
        exact ⟨a, rfl, ⟨xs, ext_l o2.sub h1⟩, k _ _ _ A2 (gives_list h1 h2) r2 (by simpa using o2) (by simpa using g2)⟩
    | _ => trivial
def iT (m : Exp) : Itm := fun env => (m env).bind fun p => match p.1 with
  | .tup ds => .ok (shL ds, p.2)
  | _ => .no
def forL (f : Tgt) (body : Stm) : List D → Env → SR
  | [], env => .nx env
  | d :: ds, env => match f d env with
    | none => .no
    | some e => match body e with
      | .nx e => forL f body ds e
      | .ct e => forL f body ds e
      | .bk e => .nx e
      | r => r
def sFor (it : Itm) (f : Tgt) (body : Stm) : Stm := fun env => match it env with
  | .ok p => forL f body p.1 p.2
  | .no => .no
  | .ex x e => .ex x e
theorem Go.with0 (g : Go Hs H [] Hs' H' []) : Go Hs H A Hs' H' A := (g.frame (F := A)).less (fun a c => by simpa using c) |>.more fun a c => by simpa using c
theorem st_for {wi : TI} {mi : Itm} {g : TG} {f : Tgt} (ei : ItI K W wi mi) (eg : GI K P g f) (eb : StI K W P s sm) : StI K W P (tFor wi g s) (sFor mi f sm) := by
  intro σ env F Hs H A r o D
  unfold sFor
  cases h1 : mi env with
  | no => trivial
  | ex x e' => exact fun k => ei.ex r o h1 k.exO _
  | ok p =>
    obtain ⟨ds, env1⟩ := p
    dsimp only
    -- the whole result
    suffices main : ∀ R, forL f sm ds env1 = R → R ≠ .no → (∀ e, R = .nx e → NxS K P σ F Hs H A D.nx e) → (∀ e, R = .bk e → NxS K P σ F Hs H A D.bk e) → (∀ e, R = .ct e → NxS K P σ F Hs H A D.ct e) →
        (∀ d e, R = .rt d e → RtS K P σ F Hs H A D.rt d e) → (∀ x e, R = .ex x e → ExS K W P σ F Hs H A x e) → tFor wi g s D σ H by
      cases hR : forL f sm ds env1 with
      | no => trivial
      | nx e => exact fun k => main _ hR (by simp) (fun e' h => by cases h; exact k) (fun e' h => by cases h) (fun e' h => by cases h) (fun d' e' h => by cases h) (fun x' e' h => by cases h)
      | bk e => exact fun k => main _ hR (by simp) (fun e' h => by cases h) (fun e' h => by cases h; exact k) (fun e' h => by cases h) (fun d' e' h => by cases h) (fun x' e' h => by cases h)
      | ct e => exact fun k => main _ hR (by simp) (fun e' h => by cases h) (fun e' h => by cases h) (fun e' h => by cases h; exact k) (fun d' e' h => by cases h) (fun x' e' h => by cases h)
      | rt d e => exact fun k => main _ hR (by simp) (fun e' h => by cases h) (fun e' h => by cases h) (fun e' h => by cases h) (fun d' e' h => by cases h; exact k) (fun x' e' h => by cases h)
      | ex x e => exact fun k => main _ hR (by simp) (fun e' h => by cases h) (fun e' h => by cases h) (fun e' h => by cases h) (fun d' e' h => by cases h) (fun x' e' h => by cases h; exact k)
    intro R hR nR kn kb kc kr kx
    refine ei.ok r o h1 fun J Hs1 H1 A1 gv r1 o1 g1 => ?_
    obtain ⟨G, Y, wk, hG, hY⟩ := gv
    refine for_it wk (fun i σ' H' => ∃ env' Hs' A', ER K Hs' H' σ' env' A' ∧ Ok Hs' H' (F ++ A') ∧ Go Hs1 H1 A1 Hs' H' A' ∧ Pin P σ σ' ∧ forL f sm (ds.drop i) env' = R) ⟨env1, Hs1, A1, r1, o1, Go.refl, Pin.refl, hR⟩ ?_ ?_ ?_
    · rintro i σ' H' _ ⟨e, Hs', A', _, o', g', _, _⟩
      exact hG Hs' H' g'.hs o'.sub
    · rintro i x σ' H' H2 hi ⟨e, Hs', A', r', o', g', p', hf⟩ hy
      have hd : ds[i]? = some ds[i] := List.getElem?_eq_getElem hi
      obtain ⟨Hs2, g2, s2, rx⟩ := hY i ds[i] Hs' H' x H2 hd g'.hs o'.sub hy
      rw [List.drop_eq_getElem_cons hi, forL] at hf
      have r2 : ER K Hs2 H2 σ' e A' := r'.mono g2.hs fun a o _ h => g2.keep a o h (by simp)
      have o2 : Ok Hs2 H2 (F ++ A') := ⟨s2, o'.nd, fun a c => by
        rcases none_or (H := Hs2) a with q | ⟨w, q⟩
        · exact q
        · rcases g2.back a w q (o'.off a c) with q | q
          · simp at q
          · exact absurd q (o'.has a c), fun a c => by
        rcases none_or (H := H') a with q | ⟨w, q⟩
        · exact absurd q (o'.has a c)
        · rw [g2.keep a w q (by simp)]; simp⟩
      have g3 : Go Hs1 H1 A1 Hs2 H2 A' := g'.trans g2.with0
      cases hfd : f ds[i] e with
      | none => rw [hfd] at hf; exact absurd hf.symm nR
      | some e2 =>
        rw [hfd] at hf
        dsimp only at hf
        refine eg σ' e F Hs2 H2 A' x ds[i] [] e2 rx r2 (by simpa using o2) hfd _ fun σ3 A3 q1 q2 p3 => ?_
        have o3 : Ok Hs2 H2 (F ++ A3) := o2.less fun a => by have := q2 a; simp only [List.count_append, List.count_nil] at *; omega
        have g4 : Go Hs1 H1 A1 Hs2 H2 A3 := g3.less fun a c => by have := q2 a; simp only [List.count_nil] at *; omega
        have p4 : Pin P σ σ3 := p'.trans p3
        cases hb : sm e2 with
        | no => rw [hb] at hf; exact absurd hf.symm nR
        | nx e3 =>
          rw [hb] at hf
          exact eb.go q1 o3 _ hb fun σ4 Hs4 H4 A4 r4 o4 g5 p5 => ⟨e3, Hs4, A4, r4, o4, g4.trans g5, p4.trans p5, hf⟩
        | ct e3 =>
          rw [hb] at hf
          exact eb.go q1 o3 _ hb fun σ4 Hs4 H4 A4 r4 o4 g5 p5 => ⟨e3, Hs4, A4, r4, o4, g4.trans g5, p4.trans p5, hf⟩
        | bk e3 =>
          rw [hb] at hf
          exact eb.go q1 o3 _ hb fun σ4 Hs4 H4 A4 r4 o4 g5 p5 => kn e3 hf.symm σ4 Hs4 H4 A4 r4 o4 (g1.trans (g4.trans g5)) (p4.trans p5)
        | rt d e3 =>
          rw [hb] at hf
          exact eb.go q1 o3 _ hb fun v σ4 Hs4 H4 B4 A4 rv r4 o4 g5 p5 => kr d e3 hf.symm v σ4 Hs4 H4 B4 A4 rv r4 o4 (g1.trans (g4.trans g5)) (p4.trans p5)
        | ex x' e3 =>
          rw [hb] at hf
          exact eb.go q1 o3 _ hb ((kx x' e3 hf.symm).after (g1.trans g4) p4)
    · rintro σ' H' ⟨e, Hs', A', r', o', g', p', hf⟩
      rw [List.drop_eq_nil_of_le (Nat.le_refl _), forL] at hf
      exact kn e hf.symm σ' Hs' H' A' r' o' (g1.trans g') p'
def whileN (b : Tst) (body : Stm) : Nat → Env → SR
  | 0, _ => .no
  | n + 1, env => match b env with
    | .no => .no
    | .ex x e => .ex x e
    | .ok p => if p.1 then (match body p.2 with
      | .nx e => whileN b body n e
      | .ct e => whileN b body n e
      | .bk e => .nx e
      | r => r) else .nx p.2
theorem whileN_up {b : Tst} {body : Stm} : ∀ {n : Nat} {env : Env} {R : SR}, whileN b body n env = R → R ≠ .no → whileN b body (n + 1) env = R
  | 0, env, R, h, n => absurd h.symm n
  | k + 1, env, R, h, n => by
    rw [whileN] at h ⊢
    cases hb : b env with
    | no => rw [hb] at h; exact h
    | ex x e => rw [hb] at h; exact h
    | ok p =>
      rw [hb] at h
      dsimp only at h ⊢
      split
      · rename_i hp
        rw [if_pos hp] at h
        cases hs : body p.2 with
        | nx e => rw [hs] at h; exact whileN_up h n
        | ct e => rw [hs] at h; exact whileN_up h n
        | _ => rw [hs] at h; exact h
      · rename_i hp
        rw [if_neg hp] at h; exact h
theorem whileN_le {b : Tst} {body : Stm} {n k : Nat} {env : Env} {R : SR} (h : whileN b body n env = R) (hn : R ≠ .no) (hk : n ≤ k) : whileN b body k env = R := by
  induction hk with
  | refl => exact h
  | step _ ih => exact whileN_up ih hn
open Classical in
noncomputable def sWhile (b : Tst) (body : Stm) : Stm := fun env => if h : ∃ n, whileN b body n env ≠ .no then whileN b body (choose h) env else .no
theorem sWhile_eq {b : Tst} {body : Stm} {n : Nat} {env : Env} {R : SR} (h : whileN b body n env = R) (hn : R ≠ .no) : sWhile b body env = R := by
  unfold sWhile
  have hx : ∃ n, whileN b body n env ≠ .no := ⟨n, by rw [h]; exact hn⟩
  rw [dif_pos hx]
  have h2 := Classical.choose_spec hx
  rcases Nat.le_total n (Classical.choose hx) with q | q
  · exact whileN_le h hn q
  · exact (whileN_le rfl h2 q).symm.trans h
theorem st_while (ec : EvB K W tt bm) (eb : StI K W P s sm) : StI K W P (tWhile tt s) (sWhile bm sm) := by
  intro σ env F Hs H A r o D
  by_cases hx : ∃ n, whileN bm sm n env ≠ .no
  · obtain ⟨n, hn⟩ := hx
    rw [sWhile_eq rfl hn]
    suffices main : ∀ R, whileN bm sm n env = R → R ≠ .no → (∀ e, R = .nx e → NxS K P σ F Hs H A D.nx e) → (∀ e, R = .bk e → NxS K P σ F Hs H A D.bk e) → (∀ e, R = .ct e → NxS K P σ F Hs H A D.ct e) →
        (∀ d e, R = .rt d e → RtS K P σ F Hs H A D.rt d e) → (∀ x e, R = .ex x e → ExS K W P σ F Hs H A x e) → tWhile tt s D σ H by
      cases hR : whileN bm sm n env with
      | no => trivial
      | nx e => exact fun k => main _ hR (by simp) (fun e' h => by cases h; exact k) (fun e' h => by cases h) (fun e' h => by cases h) (fun d' e' h => by cases h) (fun x' e' h => by cases h)
      | bk e => exact fun k => main _ hR (by simp) (fun e' h => by cases h) (fun e' h => by cases h; exact k) (fun e' h => by cases h) (fun d' e' h => by cases h) (fun x' e' h => by cases h)
      | ct e => exact fun k => main _ hR (by simp) (fun e' h => by cases h) (fun e' h => by cases h) (fun e' h => by cases h; exact k) (fun d' e' h => by cases h) (fun x' e' h => by cases h)
      | rt d e => exact fun k => main _ hR (by simp) (fun e' h => by cases h) (fun e' h => by cases h) (fun e' h => by cases h) (fun d' e' h => by cases h; exact k) (fun x' e' h => by cases h)
      | ex x e => exact fun k => main _ hR (by simp) (fun e' h => by cases h) (fun e' h => by cases h) (fun e' h => by cases h) (fun d' e' h => by cases h) (fun x' e' h => by cases h; exact k)
    intro R hR nR kn kb kc kr kx
    refine ⟨fun m σ' H' => ∃ env' Hs' A', ER K Hs' H' σ' env' A' ∧ Ok Hs' H' (F ++ A') ∧ Go Hs H A Hs' H' A' ∧ Pin P σ σ' ∧ whileN bm sm m env' = R, ⟨n, env, Hs, A, r, o, Go.refl, Pin.refl, hR⟩, ?_⟩
    rintro m σ' H' ⟨e, Hs', A', r', o', g', p', hf⟩
    cases m with
    | zero => exact absurd hf.symm nR
    | succ m =>
      rw [whileN] at hf
      cases hb : bm e with
      | no => rw [hb] at hf; exact absurd hf.symm nR
      | ex x e2 => rw [hb] at hf; exact ec.ex r' o' hb ((kx x e2 hf.symm).after g' p').exO _
      | ok q =>
        obtain ⟨c, e2⟩ := q
        rw [hb] at hf
        dsimp only at hf
        refine ec.ok r' o' hb fun Hs2 H2 A2 r2 o2 g2 => ?_
        cases c with
        | false => exact iteF (kn e2 (by simpa using hf.symm) σ' Hs2 H2 A2 r2 o2 (g'.trans g2) p')
        | true =>
          simp only [if_true] at hf
          refine iteT ⟨fun σ'' H'' => ∃ env' Hs' A', ER K Hs' H'' σ'' env' A' ∧ Ok Hs' H'' (F ++ A') ∧ Go Hs H A Hs' H'' A' ∧ Pin P σ σ'' ∧ whileN bm sm m env' = R, fun σ'' H'' h => ⟨m, Nat.lt_succ_self m, h⟩, ?_⟩
          have g3 := g'.trans g2
          cases hs : sm e2 with
          | no => rw [hs] at hf; exact absurd hf.symm nR
          | nx e3 => rw [hs] at hf; exact eb.go r2 o2 _ hs fun σ4 Hs4 H4 A4 r4 o4 g5 p5 => ⟨e3, Hs4, A4, r4, o4, g3.trans g5, p'.trans p5, hf⟩
          | ct e3 => rw [hs] at hf; exact eb.go r2 o2 _ hs fun σ4 Hs4 H4 A4 r4 o4 g5 p5 => ⟨e3, Hs4, A4, r4, o4, g3.trans g5, p'.trans p5, hf⟩
          | bk e3 => rw [hs] at hf; exact eb.go r2 o2 _ hs fun σ4 Hs4 H4 A4 r4 o4 g5 p5 => kn e3 hf.symm σ4 Hs4 H4 A4 r4 o4 (g3.trans g5) (p'.trans p5)
          | rt d e3 => rw [hs] at hf; exact eb.go r2 o2 _ hs fun v σ4 Hs4 H4 B4 A4 rv r4 o4 g5 p5 => kr d e3 hf.symm v σ4 Hs4 H4 B4 A4 rv r4 o4 (g3.trans g5) (p'.trans p5)
          | ex x' e3 => rw [hs] at hf; exact eb.go r2 o2 _ hs ((kx x' e3 hf.symm).after g3 p')
  · unfold sWhile
    rw [dif_neg hx]
    trivial
def fnM (n len : Nat) (io : Bool) (m : Stm) : Fn := fun ds => if ds.length = n then (match m (ds ++ List.replicate (len - n) .dead) with
  | .rt d e => .ok (d, if io then e.getD 0 .dead else .dead)
  | .nx e => .ok (.non, if io then e.getD 0 .dead else .dead)
  | .ex x e => .ex x e
  | _ => .no) else .no
theorem fnM_len {n len : Nat} {io : Bool} {m : Stm} (ds : List D) (q : D × D) (h : fnM n len io m ds = .ok q) : ds.length = n := by
  unfold fnM at h
  split at h
  · assumption
  · cases h
theorem er_start : ∀ {vs : List V} {ds : List D} {A : List Addr} (k : Nat), RL K Hs H vs ds A → ∃ A', ER K Hs H (vs.map some ++ List.replicate k none) (ds ++ List.replicate k .dead) A' ∧ ∀ a, A'.count a = A.count a
  | [], [], A, k, r => by
    cases r
    refine ⟨[], ?_, fun a => rfl⟩
    induction k with
    | zero => exact .nil
    | succ k ih => exact .dead ih
  | [], _ :: _, A, k, r => by cases r
  | _ :: _, [], A, k, r => by cases r
  | v :: vs, d :: ds, A, k, r => by
    obtain ⟨B, C, rfl, r1, r2⟩ := r.un
    obtain ⟨A', h1, h2⟩ := er_start k r2
    exact ⟨B ++ A', .cons r1 h1, fun a => by have := h2 a; simp only [List.count_append]; omega⟩
/-- the body's reading at the parameters' values gives what the promise asks -/
theorem fn_end {n len : Nat} {io : Bool} {m : Stm} {ts : TS} {N : List Str} (hN : N.length = len) (hn : 0 < n) (h : StI K W (if io then [0] else []) ts m) {vs : List V} {Q : VK} {E : XK} (sp : spI K n (fnM n len io m) vs H Q E) :
    ts { nx := fun _ H' => Q .non H', rt := Q } (L2.start N vs) H := by
  obtain ⟨hl, ds, Hs, F, A, p, rs, o, hm, k⟩ := sp
  unfold fnM at hm
  have hd : ds.length = n := by rw [← rs.length]; exact hl
  rw [if_pos hd] at hm
  obtain ⟨A', r0, hc⟩ := er_start (len - n) rs
  have hst : L2.start N vs = vs.map some ++ List.replicate (len - n) none := by unfold L2.start; rw [hN, hl]
  rw [hst]
  have o0 : Ok Hs H (F ++ A') := o.less fun a => by have := hc a; simp only [List.count_append]; omega
  have ggo : ∀ {Hs2 H2 : Hp} {C2 : List Addr}, Go Hs H A' Hs2 H2 C2 → Go Hs H A Hs2 H2 C2 := fun g => g.more fun a c => by have := hc a; omega
  obtain ⟨v0, vr, rfl⟩ : ∃ v0 vr, vs = v0 :: vr := by
    cases vs with
    | nil => simp at hl; omega
    | cons a b => exact ⟨a, b, rfl⟩
  have last : ∀ {σ2 : L2.St} {e : Env} {Hs2 H2 : Hp} {A2 : List Addr}, ER K Hs2 H2 σ2 e A2 → Pin (if io then [0] else []) ((v0 :: vr).map some ++ List.replicate (len - n) none) σ2 →
      ∃ C, RL K Hs2 H2 [v0] [if io then e.getD 0 .dead else .dead] C ∧ ∀ a, C.count a ≤ A2.count a := fun {σ2 e Hs2 H2 A2} r2 p2 => by
    cases io with
    | false => exact ⟨[], .dead .nil, fun a => by simp⟩
    | true =>
      have e0 : σ2[0]? = some (some v0) := by rw [p2 0 (by simp)]; rfl
      simp only [if_true]
      cases e with
      | nil => exact ⟨[], by simpa using RL.dead .nil, fun a => by simp⟩
      | cons d e =>
        show ∃ C, RL K Hs2 H2 [v0] [d] C ∧ _
        by_cases hd : d = .dead
        · subst hd; exact ⟨[], .dead .nil, fun a => by simp⟩
        · obtain ⟨v', B, A3, h1, h2, h3, h4⟩ := r2.at (i := 0) rfl hd
          rw [e0] at h1; cases h1
          exact ⟨B, h2, fun a => by have := h4 a; omega⟩
  cases hb : m (ds ++ List.replicate (len - n) .dead) with
  | rt d e =>
    rw [hb] at hm
    cases hm
    exact h.go r0 o0 _ hb fun v σ2 Hs2 H2 B2 A2 rv r2 o2 g2 p2 => by
      obtain ⟨C, c1, c2⟩ := last r2 p2
      exact k v Hs2 H2 B2 C rv c1 (o2.less fun a => by have := c2 a; simp only [List.count_append]; omega) (ggo (g2.less fun a c => by have := c2 a; simp only [List.count_append] at *; omega))
  | nx e =>
    rw [hb] at hm
    cases hm
    exact h.go r0 o0 _ hb fun σ2 Hs2 H2 A2 r2 o2 g2 p2 => by
      obtain ⟨C, c1, c2⟩ := last r2 p2
      exact k .non Hs2 H2 [] C (.sc rfl .nil) c1 (o2.less fun a => by have := c2 a; simp only [List.count_append, List.count_nil]; omega) (ggo (g2.less fun a c => by have := c2 a; simp only [List.count_append, List.count_nil] at *; omega))
  | no => rw [hb] at hm; cases hm
  | bk e => rw [hb] at hm; cases hm
  | ct e => rw [hb] at hm; cases hm
  | ex x e => rw [hb] at hm; cases hm
end
end Fl
namespace Fl
open PySem PySem.Spec PyProof.Rows L2
def W0 : Wh := ⟨False, fun _ _ _ _ _ _ => False, fun _ _ _ _ => True⟩
def IE (X : Cx) (W : Wh) (e : Expr) (m : Exp) : Prop := ∃ t, PE X e t ∧ EvI X.K W t m
def IB (X : Cx) (W : Wh) (e : Expr) (m : Tst) : Prop := ∃ t, PT X e t ∧ EvB X.K W t m
def IW (X : Cx) (W : Wh) (e : Expr) (m : Tst) : Prop := ∃ t, PW X e t ∧ EvB X.K W t m
def IA (X : Cx) (W : Wh) (es : List Expr) (m : Arg) : Prop := ∃ t, PA X es t ∧ EvA X.K W t m
def IS (X : Cx) (W : Wh) (P : List Nat) (s : Stmt) (m : Stm) : Prop := ∃ t, PS X s t ∧ StI X.K W P t m
def ISs (X : Cx) (W : Wh) (P : List Nat) (s : List Stmt) (m : Stm) : Prop := ∃ t, PSs X s t ∧ StI X.K W P t m
def IG (X : Cx) (P : List Nat) (e : Expr) (f : Tgt) : Prop := ∃ g, PG X e g ∧ GI X.K P g f
def IGs (X : Cx) (P : List Nat) (e : List Expr) (f : Tgts) : Prop := ∃ g, PGs X e g ∧ GIs X.K P g f
def II (X : Cx) (W : Wh) (tg e : Expr) (m : Itm) : Prop := ∃ wi, PI X tg e wi ∧ ItI X.K W wi m
/-- a def of the text that does m, by its name -/
structure Has (P : Program) (w : World) (K : PySem.W.Frag) (mg : Str → Option Value) (base : Heap) (k : Nat) (x : Str) (n : Nat) (m : Fn) : Prop where
  len : ∀ ds q, m ds = .ok q → ds.length = n
  ex : ∃ f fd ps, FnOk P w K mg base CX0 k f fd ps (spI K n m) ∧ mg x = some (.ref f) ∧ PySem.W.keepIn K (.ref f) = true ∧ Binds K fd ps []
section
variable {X : Cx} {W : Wh} {P : List Nat} {a b c e : Expr} {es : List Expr} {ma mb m : Exp} {ms : Arg} {pos p : Pos} {x : Str} {bm bn : Tst}
theorem ie_v (i : Nat) (hN : X.N[i]? = some x := by rfl) (hv : Vis X.env.scope x := by first | exact Or.inl rfl | exact Or.inr (Or.inl rfl) | exact Or.inr (Or.inr rfl)) (hd : (x == ("__debug__" : Str)) = false := by decide)
    (hcd : (x == ("__classdict__" : Str)) = false := by decide) : IE X W (.Name x pos) (eV i) := ⟨_, pe_var hN hv hd hcd, ev_v⟩
theorem ie_m (i : Nat) (hN : X.N[i]? = some x := by rfl) (hv : Vis X.env.scope x := by first | exact Or.inl rfl | exact Or.inr (Or.inl rfl) | exact Or.inr (Or.inr rfl)) (hd : (x == ("__debug__" : Str)) = false := by decide)
    (hcd : (x == ("__classdict__" : Str)) = false := by decide) : IE X W (.Name x pos) (eM i) := ⟨_, pe_var hN hv hd hcd, ev_m⟩
theorem ie_int {i : Int} {j} : IE X W (.Constant (.int i) j pos) (eC (.int i)) := ⟨_, pe_int, ev_c rfl⟩
theorem ie_bl {i : Bool} {j} : IE X W (.Constant (.bool i) j pos) (eC (.bl i)) := ⟨_, pe_bl, ev_c rfl⟩
theorem ie_non {j} : IE X W (.Constant .none j pos) (eC .non) := ⟨_, pe_non, ev_c rfl⟩
theorem ie_add (ha : IE X W a ma) (hb : IE X W b mb) : IE X W (.BinOp a .Add b pos) (eBin addD ma mb) := let ⟨_, h1, h2⟩ := ha; let ⟨_, h3, h4⟩ := hb; ⟨_, pe_op (op_add.or (op_add_str.or op_cat)) h1 h3, ev_binN on_add h2 h4⟩
theorem ie_sub (ha : IE X W a ma) (hb : IE X W b mb) : IE X W (.BinOp a .Sub b pos) (eBin fSub ma mb) := let ⟨_, h1, h2⟩ := ha; let ⟨_, h3, h4⟩ := hb; ⟨_, pe_op op_sub h1 h3, ev_bin os_sub h2 h4⟩
theorem ie_mul (ha : IE X W a ma) (hb : IE X W b mb) : IE X W (.BinOp a .Mult b pos) (eBin mulD ma mb) := let ⟨_, h1, h2⟩ := ha; let ⟨_, h3, h4⟩ := hb; ⟨_, pe_op (op_mulW.or op_rep) h1 h3, ev_binN on_mul h2 h4⟩
theorem ie_neg (ha : IE X W a ma) : IE X W (.UnaryOp .USub a pos) (eUn fNeg ma) := let ⟨_, h1, h2⟩ := ha; ⟨_, pe_un un_neg h1, ev_un us_neg h2⟩
theorem ie_div (py : Py X.prog X.base X.A.depth X.stack) (ha : IE X W a ma) (hb : IE X W b mb) : IE X W (.BinOp a .FloorDiv b pos) (eBin fDiv ma mb) := let ⟨_, h1, h2⟩ := ha; let ⟨_, h3, h4⟩ := hb; ⟨_, pe_op (op_fdivG py) h1 h3, ev_bin os_div h2 h4⟩
theorem ie_mod (ha : IE X W a ma) (hb : IE X W b mb) : IE X W (.BinOp a .Mod b pos) (eBin fMod ma mb) := let ⟨_, h1, h2⟩ := ha; let ⟨_, h3, h4⟩ := hb; ⟨_, pe_op op_modN h1 h3, ev_bin os_mod h2 h4⟩
theorem ie_pow (ha : IE X W a ma) (hb : IE X W b mb) : IE X W (.BinOp a .Pow b pos) (eBin fPow ma mb) := let ⟨_, h1, h2⟩ := ha; let ⟨_, h3, h4⟩ := hb; ⟨_, pe_op op_pow h1 h3, ev_bin os_pow h2 h4⟩
theorem ie_lt (ha : IE X W a ma) (hb : IE X W b mb) : IE X W (.Compare a [.Lt] [b] pos) (eBin fLt ma mb) := let ⟨_, h1, h2⟩ := ha; let ⟨_, h3, h4⟩ := hb; ⟨_, pe_cmpR op_lt h1 h3 (nomark _), ev_bin os_lt h2 h4⟩
theorem ie_gt (ha : IE X W a ma) (hb : IE X W b mb) : IE X W (.Compare a [.Gt] [b] pos) (eBin fGt ma mb) := let ⟨_, h1, h2⟩ := ha; let ⟨_, h3, h4⟩ := hb; ⟨_, pe_cmpR op_gt h1 h3 (nomark _), ev_bin os_gt h2 h4⟩
theorem ie_eq (hu : X.A.units + 64 < cLine) (ha : IE X W a ma) (hb : IE X W b mb) : IE X W (.Compare a [.Eq] [b] pos) (eBin fEq ma mb) := let ⟨_, h1, h2⟩ := ha; let ⟨_, h3, h4⟩ := hb; ⟨_, pe_cmpR ((op_eqD hu).or op_eq) h1 h3 (nomark _), ev_bin os_eq h2 h4⟩
theorem ie_tup {k} (h : IA X W es ms) : IE X W (.Tuple es k pos) (eTup ms) := let ⟨_, h1, h2⟩ := h; ⟨_, pe_tup h1, ev_tup h2⟩
theorem ie_lst (h : IA X W es ms) : IE X W (.List es pos) (eLst ms) := let ⟨_, h1, h2⟩ := h; ⟨_, pe_lst h1, ev_lst h2⟩
theorem ie_ix (ha : IE X W a ma) (hb : IE X W b mb) (hs : PlainIx b := by exact fun _ _ => rfl) : IE X W (.Subscript a b pos) (eIx ma mb) := let ⟨_, h1, h2⟩ := ha; let ⟨_, h3, h4⟩ := hb; ⟨_, pe_ix ix_seq h1 h3 hs, ev_ix h2 h4⟩
theorem ie_ixV (i : Nat) (hb : IE X W b mb) (hs : PlainIx b := by exact fun _ _ => rfl) (hN : X.N[i]? = some x := by rfl) (hv : Vis X.env.scope x := by first | exact Or.inl rfl | exact Or.inr (Or.inl rfl) | exact Or.inr (Or.inr rfl)) (hd : (x == ("__debug__" : Str)) = false := by decide)
    (hcd : (x == ("__classdict__" : Str)) = false := by decide) : IE X W (.Subscript (.Name x p) b pos) (eIxV i mb) := let ⟨_, h3, h4⟩ := hb; ⟨_, pe_ix ix_seq (pe_var hN hv hd hcd) h3 hs, ev_ixV h4⟩
theorem ia_nil : IA X W [] aN := ⟨_, pa_nil, ea_nil⟩
theorem ia_cons (he : IE X W e m) (hs : IA X W es ms) (h : starEach (e :: es) X.env = (false, eval e X.env) :: starEach es X.env := by rfl) : IA X W (e :: es) (aC m ms) := let ⟨_, h1, h2⟩ := he; let ⟨_, h3, h4⟩ := hs; ⟨_, pa_cons h1 h3 h, ea_cons h2 h4⟩
theorem ie_call {k n : Nat} {f : Fn} (h : Has X.prog X.w X.K X.mg X.base k x n f) (hr : Room k X.A) (ha : IA X W (e :: es) ms) (hg : Gl X x := by rfl) (hdb : (x == ("__debug__" : Str)) = false := by decide)
    (he : starEach (e :: es) X.env = (false, eval e X.env) :: starEach es X.env := by rfl) (hpl : (backTo pos (starEach es X.env)).any (·.1) = false := by rfl) : IE X W (.Call (.Name x p) (e :: es) [] pos) (eCall f ms) := by
  obtain ⟨_, h1, h2⟩ := ha
  obtain ⟨g, fd, ps, G, hm, hk, hb⟩ := h.ex
  exact ⟨_, pe_call G hr hg hm hk hb .nil pass0 h1 hdb he hpl, ev_call h.len h2⟩
theorem ie_callX {y : Str} {py : Pos} {k n : Nat} {f : Fn} (i : Nat) (h : Has X.prog X.w X.K X.mg X.base k x n f) (hr : Room k X.A) (ha : IA X W es ms) (hN : X.N[i]? = some y := by rfl) (hv : Vis X.env.scope y := by first | exact Or.inl rfl | exact Or.inr (Or.inl rfl) | exact Or.inr (Or.inr rfl))
    (hg : Gl X x := by rfl) (hdb : (x == ("__debug__" : Str)) = false := by decide) (hd : (y == ("__debug__" : Str)) = false := by decide) (hcd : (y == ("__classdict__" : Str)) = false := by decide)
    (he : starEach (.Name y py :: es) X.env = (false, eval (.Name y py) X.env) :: starEach es X.env := by rfl) (hpl : (backTo pos (starEach es X.env)).any (·.1) = false := by rfl) : IE X W (.Call (.Name x p) (.Name y py :: es) [] pos) (eCallX f i ms) := by
  obtain ⟨_, h1, h2⟩ := ha
  obtain ⟨g, fd, ps, G, hm, hk, hb⟩ := h.ex
  exact ⟨_, pe_call G hr hg hm hk hb .nil pass0 (pa_cons (pe_var hN hv hd hcd) h1 he) hdb he hpl, ev_callX h.len h2⟩
theorem ie_len (hm : X.mg "len" = none) (ha : IE X W a m) (hg : Gl X "len" := by rfl) (he : starEach (a :: []) X.env = (false, eval a X.env) :: starEach [] X.env := by rfl) (hpl : (backTo pos (starEach [] X.env)).any (·.1) = false := by rfl) :
    IE X W (.Call (.Name "len" p) [a] [] pos) (eB gLen (aC m aN)) := let ⟨_, h1, h2⟩ := ha; ⟨_, pe_callB call_len hg hm PySem.boot_len (pa_cons h1 pa_nil he) (by decide) (by decide) he hpl, ev_b cs_len (ea_cons h2 ea_nil)⟩
theorem ie_lenV (i : Nat) (hm : X.mg "len" = none) (hN : X.N[i]? = some x := by rfl) (hv : Vis X.env.scope x := by first | exact Or.inl rfl | exact Or.inr (Or.inl rfl) | exact Or.inr (Or.inr rfl)) (hg : Gl X "len" := by rfl)
    (hd : (x == ("__debug__" : Str)) = false := by decide) (hcd : (x == ("__classdict__" : Str)) = false := by decide)
    (he : starEach (.Name x p :: []) X.env = (false, eval (.Name x p) X.env) :: starEach [] X.env := by rfl) (hpl : (backTo pos (starEach [] X.env)).any (·.1) = false := by rfl) {pl : Pos} :
    IE X W (.Call (.Name "len" pl) [.Name x p] [] pos) (eBV gLen i) := ⟨_, pe_callB call_len hg hm PySem.boot_len (pa_cons (pe_var hN hv hd hcd) pa_nil he) (by decide) (by decide) he hpl, ev_bV cs_len⟩
theorem ie_abs (hm : X.mg "abs" = none) (ha : IE X W a m) (hg : Gl X "abs" := by rfl) (he : starEach (a :: []) X.env = (false, eval a X.env) :: starEach [] X.env := by rfl) (hpl : (backTo pos (starEach [] X.env)).any (·.1) = false := by rfl) :
    IE X W (.Call (.Name "abs" p) [a] [] pos) (eB gAbs (aC m aN)) := let ⟨_, h1, h2⟩ := ha; ⟨_, pe_callB call_abs hg hm (by decide +kernel) (pa_cons h1 pa_nil he) (by decide) (by decide) he hpl, ev_b cs_abs (ea_cons h2 ea_nil)⟩
theorem ie_max (hc : X.calm = true) (hm : X.mg "max" = none) (ha : IE X W a ma) (hb : IE X W b mb) (hg : Gl X "max" := by rfl) (he : starEach [a, b] X.env = (false, eval a X.env) :: starEach [b] X.env := by rfl) (he2 : starEach [b] X.env = (false, eval b X.env) :: starEach [] X.env := by rfl)
    (hpl : (backTo pos (starEach [b] X.env)).any (·.1) = false := by rfl) : IE X W (.Call (.Name "max" p) [a, b] [] pos) (eB gMax (aC ma (aC mb aN))) :=
  let ⟨_, h1, h2⟩ := ha; let ⟨_, h3, h4⟩ := hb; ⟨_, pe_callB (call_max2 hc) hg hm (by decide +kernel) (pa_cons h1 (pa_cons h3 pa_nil he2) he) (by decide) (by decide) he hpl, ev_b cs_max (ea_cons h2 (ea_cons h4 ea_nil))⟩
theorem ie_min (hc : X.calm = true) (hm : X.mg "min" = none) (ha : IE X W a ma) (hb : IE X W b mb) (hg : Gl X "min" := by rfl) (he : starEach [a, b] X.env = (false, eval a X.env) :: starEach [b] X.env := by rfl) (he2 : starEach [b] X.env = (false, eval b X.env) :: starEach [] X.env := by rfl)
    (hpl : (backTo pos (starEach [b] X.env)).any (·.1) = false := by rfl) : IE X W (.Call (.Name "min" p) [a, b] [] pos) (eB gMin (aC ma (aC mb aN))) :=
  let ⟨_, h1, h2⟩ := ha; let ⟨_, h3, h4⟩ := hb; ⟨_, pe_callB (call_min2 hc) hg hm (by decide +kernel) (pa_cons h1 (pa_cons h3 pa_nil he2) he) (by decide) (by decide) he hpl, ev_b cs_min (ea_cons h2 (ea_cons h4 ea_nil))⟩
theorem ie_intc (hm : X.mg "int" = none) (ha : IE X W a m) (hg : Gl X "int" := by rfl) (he : starEach (a :: []) X.env = (false, eval a X.env) :: starEach [] X.env := by rfl) (hpl : (backTo pos (starEach [] X.env)).any (·.1) = false := by rfl) :
    IE X W (.Call (.Name "int" p) [a] [] pos) (eB gInt (aC m aN)) := let ⟨_, h1, h2⟩ := ha; ⟨_, pe_callTy call_int1 hg hm (by decide +kernel) (pa_cons h1 pa_nil he) (by decide) (by decide) he hpl, ev_b cs_int (ea_cons h2 ea_nil)⟩
theorem ib_val (ha : IE X W a ma) (he : ∀ whole, isTrue a X.env whole = (do let v ← whole; standAt a.pos; holding [v] (truthy v)) := by intro _; rfl) : IB X W a (bOf ma) := let ⟨_, h1, h2⟩ := ha; ⟨_, pt_val h1 he, eb_B h2⟩
theorem ib_lt (ha : IE X W a ma) (hb : IE X W b mb) : IB X W (.Compare a [.Lt] [b] pos) (bOf (eBin fLt ma mb)) := let ⟨_, h1, h2⟩ := ha; let ⟨_, h3, h4⟩ := hb; ⟨_, pt_cmpR op_lt h1 h3 (nomark _), eb_test (ev_bin os_lt h2 h4)⟩
theorem ib_gt (ha : IE X W a ma) (hb : IE X W b mb) : IB X W (.Compare a [.Gt] [b] pos) (bOf (eBin fGt ma mb)) := let ⟨_, h1, h2⟩ := ha; let ⟨_, h3, h4⟩ := hb; ⟨_, pt_cmpR op_gt h1 h3 (nomark _), eb_test (ev_bin os_gt h2 h4)⟩
theorem ib_eq (hu : X.A.units + 64 < cLine) (ha : IE X W a ma) (hb : IE X W b mb) : IB X W (.Compare a [.Eq] [b] pos) (bOf (eBin fEq ma mb)) := let ⟨_, h1, h2⟩ := ha; let ⟨_, h3, h4⟩ := hb; ⟨_, pt_cmpR ((op_eqD hu).or op_eq) h1 h3 (nomark _), eb_test (ev_bin os_eq h2 h4)⟩
theorem ib_ne (hu : X.A.units + 64 < cLine) (ha : IE X W a ma) (hb : IE X W b mb) : IB X W (.Compare a [.NotEq] [b] pos) (bOf (eBin fNe ma mb)) := let ⟨_, h1, h2⟩ := ha; let ⟨_, h3, h4⟩ := hb; ⟨_, pt_cmpR ((op_neD hu).or op_ne) h1 h3 (nomark _), eb_test (ev_bin os_ne h2 h4)⟩
theorem ib_not (ha : IB X W a bm) : IB X W (.UnaryOp .Not a pos) (bNot bm) := let ⟨_, h1, h2⟩ := ha; ⟨_, pt_not h1, eb_not h2⟩
theorem ib_w (h : IW X W a bm) : IB X W a bm := let ⟨_, h1, h2⟩ := h; ⟨_, h1.pt, h2⟩
theorem iw_and1 (ha : IB X W a bm) : IW X W (.BoolOp .And [a] pos) bm := let ⟨_, h1, h2⟩ := ha; ⟨_, pw_and1 h1, h2⟩
theorem iw_or1 (ha : IB X W a bm) : IW X W (.BoolOp .Or [a] pos) bm := let ⟨_, h1, h2⟩ := ha; ⟨_, pw_or1 h1, h2⟩
theorem iw_and (ha : IB X W a bm) (hb : IW X W (.BoolOp .And (b :: es) pos) bn) : IW X W (.BoolOp .And (a :: b :: es) pos) (bAnd bm bn) := let ⟨_, h1, h2⟩ := ha; let ⟨_, h3, h4⟩ := hb; ⟨_, pw_and h1 h3, eb_and h2 h4⟩
theorem iw_or (ha : IB X W a bm) (hb : IW X W (.BoolOp .Or (b :: es) pos) bn) : IW X W (.BoolOp .Or (a :: b :: es) pos) (bOr bm bn) := let ⟨_, h1, h2⟩ := ha; let ⟨_, h3, h4⟩ := hb; ⟨_, pw_or h1 h3, eb_or h2 h4⟩
theorem ig_name (i : Nat) (hN : X.N.Nodup) (hP : i ∉ P := by decide) (hi : X.N[i]? = some x := by rfl) (hx : Loc X.env.scope x := by first | exact Or.inl rfl | exact Or.inr rfl) (hf : X.fn x = true ∨ X.env.scope.names.lookup x = some .local := by first | exact .inl rfl | exact .inr rfl | assumption) :
    IG X P (.Name x pos) (gN i) := ⟨_, pg_name hN hi hx hf, gi_name hP⟩
theorem igs_nil : IGs X P [] gsN := ⟨_, pgs_nil, gis_nil⟩
theorem igs_cons {f : Tgt} {fs : Tgts} (h : IG X P e f) (hs : IGs X P es fs) (h' : (assignEach (e :: es) X.env).map (·.2) = assign e X.env :: (assignEach es X.env).map (·.2) := by rfl) : IGs X P (e :: es) (gsC f fs) := let ⟨_, h1, h2⟩ := h; let ⟨_, h3, h4⟩ := hs; ⟨_, pgs_cons h1 h3 h', gis_cons h2 h4⟩
theorem ig_tup {k : Nat} {n : Nat} {fs : Tgts} (hc : X.calm = true) (h : IGs X P es fs) (hn : (assignEach es X.env).length = n := by rfl) (hst : (assignEach es X.env).findIdx? (·.1) = none := by rfl) : IG X P (.Tuple es k pos) (gT n fs) := let ⟨_, h1, h2⟩ := h; ⟨_, pg_tup hc h1 hn hst, gi_tup h2⟩
variable {tg : Expr}
theorem ii_R1 (hm : X.mg "range" = none) (ha : IA X W [a] ms) (hg : Gl X "range" := by rfl) (hs : starEach [a] X.env = [(false, eval a X.env)] := by rfl) : II X W tg (.Call (.Name "range" p) [a] [] pos) (iR1 ms) := let ⟨_, h1, h2⟩ := ha; ⟨_, pi_range1 hg hm h1 hs, it_R1 h2⟩
theorem ii_R2 (hm : X.mg "range" = none) (ha : IA X W [a, b] ms) (hg : Gl X "range" := by rfl) (hs : starEach [a, b] X.env = [(false, eval a X.env), (false, eval b X.env)] := by rfl) (hs2 : starEach [b] X.env = [(false, eval b X.env)] := by rfl) : II X W tg (.Call (.Name "range" p) [a, b] [] pos) (iR2 ms) := let ⟨_, h1, h2⟩ := ha; ⟨_, pi_range2 hg hm h1 hs hs2, it_R2 h2⟩
theorem ii_L (ha : IE X W a ma) : II X W tg a (iL ma) := let ⟨_, h1, h2⟩ := ha; ⟨_, pi_list h1, it_L h2⟩
variable {s : Stmt} {ss sa sb : List Stmt} {sm um : Stm}
theorem iss_nil : ISs X W P [] sPass := ⟨_, pss_nil, st_pass⟩
theorem iss_one (h : IS X W P s sm) : ISs X W P [s] sm := let ⟨_, h1, h2⟩ := h; ⟨_, pss_one h1, h2⟩
theorem iss_cons (h : IS X W P s sm) (hs : ISs X W P ss um) : ISs X W P (s :: ss) (sSeq sm um) := let ⟨_, h1, h2⟩ := h; let ⟨_, h3, h4⟩ := hs; ⟨_, pss_cons h1 h3, st_seq h2 h4⟩
theorem is_ret (ha : IE X W a m) : IS X W P (.Return (some a) pos) (sRet m) := let ⟨_, h1, h2⟩ := ha; ⟨_, ps_ret h1, st_ret h2⟩
theorem is_if (hc : IB X W c bm) (ha : ISs X W P sa sm) (hb : ISs X W P sb um) : IS X W P (.If c sa sb pos) (sIf bm sm um) := let ⟨_, h5, h6⟩ := hc; let ⟨_, h1, h2⟩ := ha; let ⟨_, h3, h4⟩ := hb; ⟨_, ps_if h5 h1 h3, st_if h6 h2 h4⟩
theorem is_set {pos' : Pos} (i : Nat) (hN : X.N.Nodup) (ha : IE X W a m) (hP : i ∉ P := by decide) (hi : X.N[i]? = some x := by rfl) (hx : Loc X.env.scope x := by first | exact Or.inl rfl | exact Or.inr rfl) (hs : swapsWith a (some (.Name x pos')) pos.line X.env = pure false := by rfl)
    (hf : X.fn x = true ∨ X.env.scope.names.lookup x = some .local := by first | exact .inl rfl | exact .inr rfl | assumption) : IS X W P (.Assign [.Name x pos'] a pos) (sAsg m (gN i)) := let ⟨_, h1, h2⟩ := ha; ⟨_, ps_set hN hi hx h1 hs hf, st_asg h2 (gi_name hP)⟩
theorem is_asg {f : Tgt} (ha : IE X W a m) (hg : IG X P tg f) (hs : swapsWithSole [tg] a pos.line X.env = pure false := by rfl) (hw : swappedStores [tg] a X.env = pure none := by rfl)
    (h1 : (assignEach [tg] X.env).map (·.2) = [assign tg X.env] := by rfl) : IS X W P (.Assign [tg] a pos) (sAsg m f) := let ⟨_, h3, h2⟩ := ha; let ⟨_, h5, h4⟩ := hg; ⟨_, ps_asg h3 h5 hs hw h1, st_asg h2 h4⟩
theorem is_par {y : Str} {px py pt : Pos} {kt k2 : Nat} {pt2 : Pos} (i j : Nat) (hc : X.calm = true) (hN : X.N.Nodup) (ha : IA X W [a, b] ms) (hi' : i ∉ P := by decide) (hj' : j ∉ P := by decide) (hi : X.N[i]? = some x := by rfl) (hj : X.N[j]? = some y := by rfl) (hij : i ≠ j := by decide)
    (hx : X.env.scope.names.lookup x = some .local := by rfl) (hy : X.env.scope.names.lookup y = some .local := by rfl)
    (hw : swappedStores [.Tuple [.Name x px, .Name y py] kt pt] (.Tuple [a, b] k2 pt2) X.env = pure (some [x, y]) := by rfl)
    (hs : swapsWithSole [.Tuple [.Name x px, .Name y py] kt pt] (.Tuple [a, b] k2 pt2) pos.line X.env = pure false := by rfl) :
    IS X W P (.Assign [.Tuple [.Name x px, .Name y py] kt pt] (.Tuple [a, b] k2 pt2) pos) (sPar i j ms) := let ⟨_, h1, h2⟩ := ha; ⟨_, ps_par hc hN hi hj hij hx hy h1 hw hs, st_par hi' hj' h2⟩
theorem is_setIx {pos' p2 : Pos} (i : Nat) (ha : IE X W a m) (hb : IE X W b mb) (hN : X.N[i]? = some x := by rfl) (hv : Vis X.env.scope x := by first | exact Or.inl rfl | exact Or.inr (Or.inl rfl) | exact Or.inr (Or.inr rfl))
    (hd : (x == ("__debug__" : Str)) = false := by decide) (hcd : (x == ("__classdict__" : Str)) = false := by decide)
    (hs : swapsWithSole [.Subscript (.Name x p2) b pos'] a pos.line X.env = pure false := by rfl) (hw : swappedStores [.Subscript (.Name x p2) b pos'] a X.env = pure none := by rfl)
    (h1 : (assignEach [.Subscript (.Name x p2) b pos'] X.env).map (·.2) = [assign (.Subscript (.Name x p2) b pos') X.env] := by rfl)
    (hsub : ∀ v, assign (.Subscript (.Name x p2) b pos') X.env v = (do
      let ov ← holding [v] (eval (.Name x p2) X.env)
      let iv ← holding [v, ov] (eval b X.env)
      standAt pos'
      holding [v, ov, iv] (setItem ov iv v)
      release [v, ov, iv] []) := by intro _; rfl) :
    IS X W P (.Assign [.Subscript (.Name x p2) b pos'] a pos) (sSetIx i m mb) := let ⟨_, h3, h2⟩ := ha; let ⟨_, h5, h4⟩ := hb; ⟨_, ps_asg h3 (pg_sub (pe_var hN hv hd hcd) h5 set_list hsub) hs hw h1, st_setIx h2 h4⟩
theorem is_for {iter : Expr} {mi : Itm} {f : Tgt} (hp : PassesOwn (model X.prog X.w) X.A X.env X.xe) (hc : X.calm = true) (hi : II X W tg iter mi) (hg : IG X P tg f) (hb : ISs X W P ss sm) (hs : ∀ x, foldedSetIterable iter X.env x = pure x := by intro _; rfl) :
    IS X W P (.For tg iter ss [] pos) (sFor mi f sm) := let ⟨_, h1, h2⟩ := hi; let ⟨_, h3, h4⟩ := hg; let ⟨_, h5, h6⟩ := hb; ⟨_, ps_for hp hc h1 h3 h5 hs, st_for h2 h4 h6⟩
theorem is_while (hp : PassesOwn (model X.prog X.w) X.A X.env X.xe) (hc : IB X W c bm) (hb : ISs X W P ss sm) : IS X W P (.While c ss [] pos) (sWhile bm sm) := let ⟨_, h1, h2⟩ := hc; let ⟨_, h5, h6⟩ := hb; ⟨_, ps_while hp h1 h5, st_while h2 h6⟩
theorem is_app {p1 p2 p3 p4 : Pos} (i : Nat) (ha : IE X W a m) (hN : X.N[i]? = some x := by rfl) (hv : Vis X.env.scope x := by first | exact Or.inl rfl | exact Or.inr (Or.inl rfl) | exact Or.inr (Or.inr rfl))
    (hd : (x == ("__debug__" : Str)) = false := by decide) (hcd : (x == ("__classdict__" : Str)) = false := by decide)
    (hbase : attributeBase (.Name x p1) "append" X.env (eval (.Name x p1) X.env) = eval (.Name x p1) X.env := by rfl)
    (hfew : ((backTo p3 (starEach (a :: []) X.env)).all (fun x => !x.1) && (backToKw p3 (keywordEach [] X.env)).all (fun x => x.1.isSome)
      && decide ((a :: []).length + ([] : List Keyword).length + (if ([] : List Keyword).isEmpty then 0 else 1) < 30)) = true := by rfl)
    (hline : (p2.endLine == p3.line) = true := by rfl) (hs : starEach (a :: []) X.env = (false, eval a X.env) :: starEach [] X.env := by rfl) (hplain : (backTo p3 (starEach [] X.env)).any (·.1) = false := by rfl)
    (hsw : swapsWith (.Call (.Attribute (.Name x p1) "append" p2) [a] [] p3) none p4.line X.env = pure false := by rfl) :
    IS X W P (.Expr (.Call (.Attribute (.Name x p1) "append" p2) [a] [] p3) p4) (sApp i m) := let ⟨_, h1, h2⟩ := ha;
  ⟨_, ps_expr (pe_bm PySem.F.plainAttrs_list PySem.F.slot_list_append PySem.F.type_list_append mt_append (pe_var hN hv hd hcd) (pa_cons h1 pa_nil hs) hbase hfew hline hs hplain) hsw, st_app h2⟩
end
section
variable {Pg : Program} {w : World} {K : PySem.W.Frag} {mg : Str → Option Value} {base : Heap}
theorem fn_def {x qual : Str} {st : Stmt} {f : Addr} {fd : FuncData} {N ps : List Str} {k n : Nat} {io : Bool} {m : Stm} (F : Fun K x qual st f fd) (S : FnScope N ps (defScope st)) (hn : ps.length = n) (h0 : 0 < n)
    (body : ∀ (cdv : Value) (A : Around) (outer : List PySem.Env) (s : Shared) (H : Hp) (E : XK), Room k (A.deeper (envOfC qual (defScope st) s.heap.objs.size f cdv)) →
      ISs (cxOf CX0 Pg w K mg base N qual (defScope st) f cdv A outer s H E).nox W0 (if io then [0] else []) (defBody st) m) :
    FnOk Pg w K mg base CX0 (k + 1) f fd ps (spI K n (fnM n N.length io m)) := by
  refine F.ok S (fun vs H Q E h => by rw [hn]; exact h.1) (fun cdv A outer s H vs Q E hr h => ?_)
  obtain ⟨t, h1, h2⟩ := body cdv A outer s H E hr
  exact ⟨t, h1, fn_end rfl h0 h2 h⟩
theorem py_fn {qual : Str} {sc : Scope} {N ps : List Str} {k : Nat} {A : Around} {outer : List PySem.Env} {f : Addr} {cdv : Value} {L : Addr} (S : FnScope N ps sc) (hr : Room k (A.deeper (envOfC qual sc L f cdv))) (hk : 34 ≤ k) (ht : Pg.given.tree = none) (hs : base.NoSeer) :
    Py Pg base (A.deeper (envOfC qual sc L f cdv)).depth (envOfC qual sc L f cdv :: outer) :=
  ⟨by have := hr.dp; omega, ht, hs, _, _, rfl, S.gen, S.co, rfl, rfl⟩
theorem has_of {x qual : Str} {st : Stmt} {f : Addr} {fd : FuncData} {ps : List Str} {k n : Nat} {m : Fn} (F : Fun K x qual st f fd) (hl : ∀ ds q, m ds = .ok q → ds.length = n) (h : FnOk Pg w K mg base CX0 k f fd ps (spI K n m)) (hm : mg x = some (.ref f)) (b : Binds K fd ps []) :
    Has Pg w K mg base k x n m := ⟨hl, f, fd, ps, h, hm, F.kp, b⟩
theorem rl_ints {Hs H : Hp} : ∀ ns : List Int, RL K Hs H (ns.map V.int) (ns.map D.int) []
  | [] => .nil
  | n :: ns => .sc rfl (rl_ints ns)
theorem law_sp {H : Hp} {a : Addr} {ns : List Int} {m : Fn} {E : XK} (hS : SqL K H a (ns.map V.int)) (h : ∃ d0, m [.frz (ns.map .int)] = .ok (.bl true, d0)) : spI K 1 m [.ref a] H (fun v _ => v = .bl true) E := by
  obtain ⟨d0, h⟩ := h
  refine ⟨rfl, [.frz (ns.map .int)], H, [], [], (.bl true, d0), .frz hS (rl_ints ns) .nil, ⟨fun _ _ h => h, fun a => by simp, fun a c => by simp at c, fun a c => by simp at c⟩, h, fun v Hs' H' B C rv _ _ _ => rv.bl⟩
end
end Fl
namespace Fl
open PySem
section
variable {env : Env} {d : D} {i j : Nat} {m ma mb mc : Exp} {ms : Arg} {f : D → D → Option D} {g : List D → Option D} {fn : Fn} {b c : Tst} {s u : Stm}
@[simp] theorem eC_app : eC d env = .ok (d, env) := rfl
@[simp] theorem eV_app : eV i env = (match env[i]? with | some d => if isDead d then .no else if own d then .ok (sh d, env.set i (sh d)) else .ok (d, env) | none => .no) := rfl
@[simp] theorem eM_app : eM i env = (match env[i]? with | some d => if isDead d then .no else .ok (d, env.set i .dead) | none => .no) := rfl
@[simp] theorem eBin_app : eBin f ma mb env = (ma env).bind fun p => (mb p.2).bind fun q => match f p.1 q.1 with | some d => .ok (d, q.2) | none => .no := rfl
@[simp] theorem eUn_app {f : D → Option D} : eUn f ma env = (ma env).bind fun p => match f p.1 with | some d => .ok (d, p.2) | none => .no := rfl
@[simp] theorem aN_app : aN env = .ok ([], env) := rfl
@[simp] theorem aC_app : aC m ms env = (m env).bind fun p => (ms p.2).bind fun q => .ok (p.1 :: q.1, q.2) := rfl
@[simp] theorem eTup_app : eTup ms env = (ms env).bind fun p => if p.1.length ≤ 100000 then .ok (.tup p.1, p.2) else .no := rfl
@[simp] theorem eLst_app : eLst ms env = (ms env).bind fun p => if p.1.length ≤ 100000 then .ok (.lst true p.1, p.2) else .no := rfl
@[simp] theorem eIx_app : eIx ma mb env = (ma env).bind fun p => (mb p.2).bind fun q => match q.1 with | .int i => (match ixD p.1 i with | some d => .ok (d, q.2) | none => .no) | _ => .no := rfl
@[simp] theorem eIxV_app : eIxV i mb env = if live env i then (mb env).bind fun q => (match q.1, q.2[i]? with
  | .int j, some c => (match ixD c j with | some d => if own d then .ok (sh d, q.2.set i (sh c)) else .ok (d, q.2) | none => .no)
  | _, _ => .no) else .no := rfl
@[simp] theorem eCall_app : eCall fn ms env = (ms env).bind fun p => match fn p.1 with | .ok q => .ok (q.1, p.2) | _ => .no := rfl
@[simp] theorem eCallX_app : eCallX fn i ms env = if live env i then (ms env).bind fun p => (match p.2[i]? with
  | some c => if isDead c then .no else (match fn (c :: p.1) with | .ok q => .ok (q.1, p.2.set i q.2) | _ => .no)
  | none => .no) else .no := rfl
@[simp] theorem eB_app : eB g ms env = (ms env).bind fun p => match g p.1 with | some d => .ok (d, p.2) | none => .no := rfl
@[simp] theorem eBV_app : eBV g i env = (match env[i]? with | some c => if isDead c then .no else (match g [c] with | some d => .ok (d, env) | none => .no) | none => .no) := rfl
@[simp] theorem eIsi_app {n : String} : eIsi n ma env = (ma env).bind fun p => match isiD n [p.1] with | some d => .ok (d, p.2) | none => .no := rfl
@[simp] theorem eIsiV_app {n : String} : eIsiV n i env = eBV (isiD n) i env := rfl
@[simp] theorem eNonB_app {n : Bool} : eNonB n ma env = (ma env).bind fun p => match isNon p.1 with | some b => .ok (.bl (if n then !b else b), p.2) | none => .no := rfl
@[simp] theorem eNot_app : eNot ma env = (ma env).bind fun p => match (match p.1 with | .bl b => some (.bl (!b)) | _ => none) with | some d => .ok (d, p.2) | none => .no := rfl
@[simp] theorem eAnd_app : eAnd ma mb env = (ma env).bind fun p => match p.1 with | .bl b => if b then mb p.2 else .ok (.bl false, p.2) | _ => .no := rfl
@[simp] theorem eOr_app : eOr ma mb env = (ma env).bind fun p => match p.1 with | .bl b => if b then .ok (.bl true, p.2) else mb p.2 | _ => .no := rfl
@[simp] theorem eIf_app : eIf b ma mb env = (b env).bind fun p => if p.1 then ma p.2 else mb p.2 := rfl
@[simp] theorem bOf_app : bOf m env = (m env).bind fun p => match p.1 with | .bl b => .ok (b, p.2) | _ => .no := rfl
@[simp] theorem bNot_app : bNot b env = (b env).bind fun p => .ok (!p.1, p.2) := rfl
@[simp] theorem bAnd_app : bAnd b c env = (b env).bind fun p => if p.1 then c p.2 else .ok (false, p.2) := rfl
@[simp] theorem bOr_app : bOr b c env = (b env).bind fun p => if p.1 then .ok (true, p.2) else c p.2 := rfl
@[simp] theorem sPass_app : sPass env = .nx env := rfl
@[simp] theorem sSeq_app : sSeq s u env = (match s env with | .nx e => u e | r => r) := rfl
@[simp] theorem sRaise_app {c : Str} : sRaise c ms env = (match ms env with | .ok p => .ex (.exo c p.1) p.2 | .no => .no | .ex x e => .ex x e) := rfl
@[simp] theorem sRet_app : sRet m env = (match m env with | .ok p => .rt p.1 p.2 | .no => .no | .ex x e => .ex x e) := rfl
@[simp] theorem sRetN_app : sRetN env = .rt .non env := rfl
@[simp] theorem sExpr_app : sExpr m env = (match m env with | .ok p => .nx p.2 | .no => .no | .ex x e => .ex x e) := rfl
@[simp] theorem sIf_app : sIf b s u env = (match b env with | .ok p => if p.1 then s p.2 else u p.2 | .no => .no | .ex x e => .ex x e) := rfl
@[simp] theorem gN_app : gN i d env = some (env.set i d) := rfl
@[simp] theorem gsN_app : gsN [] env = some env := rfl
@[simp] theorem gsC_app {t : Tgt} {ts : Tgts} {ds : List D} : gsC t ts (d :: ds) env = (t d env).bind fun e => ts ds e := rfl
@[simp] theorem gT_app {n : Nat} {ts : Tgts} {ds : List D} : gT n ts (.tup ds) env = if ds.length = n then ts ds env else none := rfl
@[simp] theorem sAsg_app {t : Tgt} : sAsg m t env = (match m env with | .ok p => (match t p.1 p.2 with | some e => .nx e | none => .no) | .no => .no | .ex x e => .ex x e) := rfl
@[simp] theorem sPar_app : sPar i j ms env = (match ms env with | .ok p => (match p.1 with | [x, y] => .nx ((p.2.set i x).set j y) | _ => .no) | .no => .no | .ex x e => .ex x e) := rfl
@[simp] theorem sSetIx_app : sSetIx i ma mb env = (match ma env with
  | .no => .no
  | .ex x e => .ex x e
  | .ok p => if live p.2 i then (match mb p.2 with
    | .no => .no
    | .ex x e => .ex x e
    | .ok q => match q.1, q.2[i]? with
      | .int k, some (.lst true ds) => (match L2.ixN ds.length k with
        | some j => .nx (q.2.set i (.lst true (ds.set j p.1)))
        | none => .no)
      | _, _ => .no) else .no) := rfl
@[simp] theorem sApp_app : sApp i ma env = if isLst env i then (match ma env with
  | .no => .no
  | .ex x e => .ex x e
  | .ok p => match p.2[i]? with
    | some (.lst true ds) => if ds.length < 100000 then .nx (p.2.set i (.lst true (ds ++ [p.1]))) else .no
    | _ => .no) else .no := rfl
@[simp] theorem sFor_app {it : Itm} {t : Tgt} : sFor it t s env = (match it env with | .ok p => forL t s p.1 p.2 | .no => .no | .ex x e => .ex x e) := rfl
@[simp] theorem iR1_app : iR1 ms env = (ms env).bind fun p => match p.1 with | [.int n] => if -1000000 ≤ n ∧ n ≤ 1000000 then .ok (rangeD 0 n.toNat, p.2) else .no | _ => .no := rfl
@[simp] theorem iR2_app : iR2 ms env = (ms env).bind fun p => match p.1 with | [.int a, .int b] => if -1000000 ≤ a ∧ a ≤ 1000000 ∧ -1000000 ≤ b ∧ b ≤ 1000000 then .ok (rangeD a (b - a).toNat, p.2) else .no | _ => .no := rfl
@[simp] theorem iL_app : iL m env = (m env).bind fun p => match p.1 with | .lst _ ds => .ok (shL ds, p.2) | .frz ds => .ok (ds, p.2) | _ => .no := rfl
@[simp] theorem iT_app : iT m env = (m env).bind fun p => match p.1 with | .tup ds => .ok (shL ds, p.2) | _ => .no := rfl
@[simp] theorem fSub_int {a b : Int} : fSub (.int a) (.int b) = some (.int (a - b)) := rfl
@[simp] theorem addD_int {a b : Int} : addD (.int a) (.int b) = some (.int (a + b)) := rfl
@[simp] theorem fLt_int {a b : Int} : fLt (.int a) (.int b) = some (.bl (decide (a < b))) := rfl
@[simp] theorem fLe_int {a b : Int} : fLe (.int a) (.int b) = some (.bl (decide (a ≤ b))) := rfl
@[simp] theorem fGt_int {a b : Int} : fGt (.int a) (.int b) = some (.bl (decide (b < a))) := rfl
@[simp] theorem fGe_int {a b : Int} : fGe (.int a) (.int b) = some (.bl (decide (b ≤ a))) := rfl
@[simp] theorem fNeg_int {a : Int} : fNeg (.int a) = some (.int (-a)) := rfl
@[simp] theorem fEq_int {a b : Int} : fEq (.int a) (.int b) = some (.bl (a == b)) := rfl
@[simp] theorem fNe_int {a b : Int} : fNe (.int a) (.int b) = some (.bl (!(a == b))) := rfl
@[simp] theorem fEq_bl {a b : Bool} : fEq (.bl a) (.bl b) = some (.bl (a == b)) := rfl
@[simp] theorem fNe_bl {a b : Bool} : fNe (.bl a) (.bl b) = some (.bl (!(a == b))) := rfl
@[simp] theorem own_int {a : Int} : own (.int a) = false := rfl
@[simp] theorem own_bl {a : Bool} : own (.bl a) = false := rfl
@[simp] theorem own_non : own .non = false := rfl
@[simp] theorem own_str {x : Str} : own (.str x) = false := rfl
@[simp] theorem own_frz {ds : List D} : own (.frz ds) = false := rfl
@[simp] theorem own_lstS {ds : List D} : own (.lst false ds) = false := rfl
@[simp] theorem own_lstO {ds : List D} : own (.lst true ds) = true := rfl
@[simp] theorem own_tup {ds : List D} : own (.tup ds) = ownL ds := rfl
@[simp] theorem ownL_nil : ownL [] = false := rfl
@[simp] theorem ownL_cons {ds : List D} : ownL (d :: ds) = (own d || ownL ds) := rfl
@[simp] theorem sh_int {a : Int} : sh (.int a) = .int a := rfl
@[simp] theorem sh_bl {a : Bool} : sh (.bl a) = .bl a := rfl
@[simp] theorem sh_non : sh .non = .non := rfl
@[simp] theorem sh_str {x : Str} : sh (.str x) = .str x := rfl
@[simp] theorem sh_lst {o : Bool} {ds : List D} : sh (.lst o ds) = .lst false (shL ds) := by simp [sh]
@[simp] theorem sh_frz {ds : List D} : sh (.frz ds) = .frz (shL ds) := by simp [sh]
@[simp] theorem sh_tup {ds : List D} : sh (.tup ds) = .tup (shL ds) := by simp [sh]
@[simp] theorem sh_dct {o : Bool} {ks : List L2.Key} {ds : List D} : sh (.dct o ks ds) = .dct false ks (shL ds) := by simp [sh]
@[simp] theorem sh_obj {o : Bool} {c : Str} {ns : List Str} {ds : List D} : sh (.obj o c ns ds) = .obj false c ns (shL ds) := by simp [sh]
@[simp] theorem own_obj {o : Bool} {c : Str} {ns : List Str} {ds : List D} : own (.obj o c ns ds) = o := rfl
@[simp] theorem own_dct {o : Bool} {ks : List L2.Key} {ds : List D} : own (.dct o ks ds) = o := rfl
@[simp] theorem sh_dead : sh .dead = .dead := rfl
@[simp] theorem sh_exo {c : Str} {ds : List D} : sh (.exo c ds) = .exo c ds := rfl
@[simp] theorem isDead_obj {o : Bool} {c : Str} {ns : List Str} {ds : List D} : isDead (.obj o c ns ds) = false := rfl
@[simp] theorem isDead_dct {o : Bool} {ks : List L2.Key} {ds : List D} : isDead (.dct o ks ds) = false := rfl
@[simp] theorem shL_nil : shL [] = [] := rfl
@[simp] theorem shL_cons {ds : List D} : shL (d :: ds) = sh d :: shL ds := rfl
@[simp] theorem isDead_int {a : Int} : isDead (.int a) = false := rfl
@[simp] theorem isDead_bl {a : Bool} : isDead (.bl a) = false := rfl
@[simp] theorem isDead_non : isDead .non = false := rfl
@[simp] theorem isDead_str {x : Str} : isDead (.str x) = false := rfl
@[simp] theorem isDead_frz {ds : List D} : isDead (.frz ds) = false := rfl
@[simp] theorem isDead_lst {o : Bool} {ds : List D} : isDead (.lst o ds) = false := rfl
@[simp] theorem isDead_tup {ds : List D} : isDead (.tup ds) = false := rfl
@[simp] theorem live_app : live env i = (match env[i]? with | some c => !isDead c | none => false) := rfl
@[simp] theorem gLen_lst {o : Bool} {ds : List D} : gLen [.lst o ds] = some (.int ds.length) := rfl
@[simp] theorem gLen_frz {ds : List D} : gLen [.frz ds] = some (.int ds.length) := rfl
@[simp] theorem gLen_tup {ds : List D} : gLen [.tup ds] = some (.int ds.length) := rfl
@[simp] theorem gAbs_int {a : Int} : gAbs [.int a] = some (.int (a.natAbs : Int)) := by show some (D.int (if a < 0 then -a else a)) = _; congr 2; split <;> omega
@[simp] theorem gMax_int {a b : Int} : gMax [.int a, .int b] = some (.int (max a b)) := by show some (D.int (if b > a then b else a)) = _; congr 2; split <;> omega
@[simp] theorem gMin_int {a b : Int} : gMin [.int a, .int b] = some (.int (min a b)) := by show some (D.int (if b < a then b else a)) = _; congr 2; split <;> omega
@[simp] theorem ixD_lst {o : Bool} {ds : List D} {k : Int} : ixD (.lst o ds) k = L2.atI ds k := rfl
@[simp] theorem ixD_frz {ds : List D} {k : Int} : ixD (.frz ds) k = L2.atI ds k := rfl
@[simp] theorem ixD_tup {ds : List D} {k : Int} : ixD (.tup ds) k = L2.atI ds k := rfl
theorem atI_of {α : Type} {xs : List α} {k : Int} (h : 0 ≤ k) : L2.atI xs k = xs[k.toNat]? := by
  unfold L2.atI L2.ixN
  rw [if_pos h]
  by_cases h2 : k < xs.length
  · rw [if_pos h2]; rfl
  · rw [if_neg h2]
    exact (List.getElem?_eq_none (by omega)).symm
@[simp] theorem atI_0 {α : Type} {xs : List α} : L2.atI xs 0 = xs[0]? := atI_of (by decide)
@[simp] theorem atI_1 {α : Type} {xs : List α} : L2.atI xs 1 = xs[1]? := atI_of (by decide)
@[simp] theorem atI_2 {α : Type} {xs : List α} : L2.atI xs 2 = xs[2]? := atI_of (by decide)
@[simp] theorem atI_lit {α : Type} {xs : List α} (n : Nat) : L2.atI xs (no_index (OfNat.ofNat n : Int)) = xs[n]? := atI_of (Int.natCast_nonneg n)
@[simp] theorem isiD_app {n : String} : isiD n [d] = (kindD d).map fun k => .bl (instOf k n) := rfl
@[simp] theorem kindD_non : kindD .non = some "NoneType" := rfl
@[simp] theorem kindD_bl {b : Bool} : kindD (.bl b) = some "bool" := rfl
@[simp] theorem kindD_int {b : Int} : kindD (.int b) = some "int" := rfl
@[simp] theorem kindD_str {b : Str} : kindD (.str b) = some "str" := rfl
@[simp] theorem kindD_tup {ds : List D} : kindD (.tup ds) = some "tuple" := rfl
@[simp] theorem kindD_lst {o : Bool} {ds : List D} : kindD (.lst o ds) = some "list" := rfl
@[simp] theorem kindD_frz {ds : List D} : kindD (.frz ds) = some "list" := rfl
@[simp] theorem kindD_dct {o : Bool} {ks : List L2.Key} {ds : List D} : kindD (.dct o ks ds) = some "dict" := rfl
@[simp] theorem fnM_app {n len : Nat} {io : Bool} {m : Stm} {ds : List D} : fnM n len io m ds = if ds.length = n then (match m (ds ++ List.replicate (len - n) .dead) with
  | .rt d e => .ok (d, if io then e.getD 0 .dead else .dead)
  | .nx e => .ok (.non, if io then e.getD 0 .dead else .dead)
  | .ex x e => .ex x e
  | _ => .no) else .no := rfl
@[simp] theorem forL_nil {t : Tgt} : forL t s [] env = .nx env := rfl
theorem forL_cons {t : Tgt} {ds : List D} : forL t s (d :: ds) env = (match t d env with
    | none => .no
    | some e => match s e with
      | .nx e => forL t s ds e
      | .ct e => forL t s ds e
      | .bk e => .nx e
      | r => r) := rfl
mutual
@[simp] theorem own_sh : ∀ d : D, own (sh d) = false
  | .non => rfl
  | .bl _ => rfl
  | .int _ => rfl
  | .str _ => rfl
  | .tup ds => by simp [ownL_shL ds]
  | .lst _ ds => by simp
  | .frz ds => by simp
  | .dct _ _ _ => by simp
  | .obj _ _ _ _ => rfl
  | .exo _ _ => rfl
  | .dead => rfl
@[simp] theorem ownL_shL : ∀ ds : List D, ownL (shL ds) = false
  | [] => rfl
  | d :: ds => by simp [own_sh d, ownL_shL ds]
end
theorem log2_lt {a : Int} {k : Nat} (h : a.natAbs < 2 ^ k) (hk : 0 < k) : a.natAbs.log2 < k := by
  by_cases z : a.natAbs = 0
  · rw [z]; exact Nat.lt_of_le_of_lt (by decide) hk
  · exact (Nat.log2_lt z).mpr h
end
end Fl
namespace Fl
open PySem PySem.Spec PyProof.Rows L2
section
variable {K : PySem.W.Frag} {W : Wh} {σ σ2 : L2.St} {env env' : Env} {F A A' B C : List Addr} {Hs H Hs' H' Hs'' H'' : Hp} {t te : TE} {tt : TT} {m me : Exp} {d : D} {v : V} {P : List Nat}
def wipeD (env : Env) : List Nat → Env
  | [] => env
  | i :: vs => (wipeD env vs).set i .dead
def backD (old : Env) : List Nat → Env → Env
  | [], e => e
  | i :: vs, e => backD old vs (match old[i]? with | some d => if own d || isDead d then e else e.set i d | none => e)
theorem wipeD_length (env : Env) : ∀ vs : List Nat, (wipeD env vs).length = env.length
  | [] => rfl
  | i :: vs => by unfold wipeD; rw [List.length_set, wipeD_length env vs]
theorem wipeD_at {env : Env} {i : Nat} : ∀ {vs : List Nat}, i ∈ vs → i < env.length → (wipeD env vs)[i]? = some D.dead
  | v :: vs, h, hl => by
    unfold wipeD
    by_cases e : v = i
    · subst e; rw [List.getElem?_set_self (by rw [wipeD_length]; exact hl)]
    · rw [List.getElem?_set_ne e]
      exact wipeD_at (by rcases List.mem_cons.mp h with h | h; exact absurd h.symm e; exact h) hl
theorem wipe_at {σ : L2.St} {i : Nat} : ∀ {vs : List Nat}, i ∉ vs → (L2.wipe σ vs)[i]? = σ[i]?
  | [], _ => rfl
  | v :: vs, h => by
    simp only [List.mem_cons, not_or] at h
    unfold L2.wipe
    rw [List.getElem?_set_ne (fun e => h.1 e.symm), wipe_at h.2]
theorem wipe_in {σ : L2.St} {i : Nat} : ∀ {vs : List Nat}, i ∈ vs → i < σ.length → (L2.wipe σ vs)[i]? = some none
  | v :: vs, h, hl => by
    unfold L2.wipe
    by_cases e : v = i
    · subst e; rw [List.getElem?_set_self (by rw [L2.wipe_length]; exact hl)]
    · rw [List.getElem?_set_ne e]
      exact wipe_in (by rcases List.mem_cons.mp h with h | h; exact absurd h.symm e; exact h) hl
theorem wipe_eq {vs : List Nat} (hl : σ2.length = σ.length) (h : ∀ i, i < σ.length → i ∉ vs → σ2[i]? = σ[i]?) : L2.wipe σ2 vs = L2.wipe σ vs := by
  apply List.ext_getElem?
  intro i
  by_cases hv : i ∈ vs
  · by_cases hi : i < σ.length
    · rw [wipe_in hv (by omega), wipe_in hv hi]
    · rw [List.getElem?_eq_none (by rw [L2.wipe_length]; omega), List.getElem?_eq_none (by rw [L2.wipe_length]; omega)]
  · rw [wipe_at hv, wipe_at hv]
    by_cases hi : i < σ.length
    · exact h i hi hv
    · rw [List.getElem?_eq_none (by omega), List.getElem?_eq_none (by omega)]
theorem ER.die : ∀ {σ : L2.St} {env : List D} {A : List Addr} {i : Nat}, ER K Hs H σ env A → ∃ A', ER K Hs H σ (env.set i .dead) A' ∧ ∀ a, A'.count a ≤ A.count a
  | _, _, _, i, .nil => ⟨[], .nil, fun a => by simp⟩
  | _, _, _, 0, .dead r => ⟨_, .dead r, fun a => Nat.le_refl _⟩
  | _, _, _, 0, .cons q r => ⟨_, .dead r, fun a => by rw [List.count_append]; omega⟩
  | _, _, _, i + 1, .dead r => by
    obtain ⟨A', h1, h2⟩ := ER.die (i := i) r
    exact ⟨A', .dead h1, h2⟩
  | _, _, _, i + 1, .cons q r => by
    obtain ⟨A', h1, h2⟩ := ER.die (i := i) r
    exact ⟨_, .cons q h1, fun a => by have := h2 a; rw [List.count_append, List.count_append]; omega⟩
theorem ER.wiped (r : ER K Hs H σ env A) : ∀ vs : List Nat, ∃ A', ER K Hs H σ (wipeD env vs) A' ∧ ∀ a, A'.count a ≤ A.count a
  | [] => ⟨A, r, fun a => Nat.le_refl _⟩
  | i :: vs => by
    obtain ⟨A1, h1, h2⟩ := ER.wiped r vs
    obtain ⟨A2, h3, h4⟩ := h1.die (i := i)
    exact ⟨A2, h3, fun a => Nat.le_trans (h4 a) (h2 a)⟩
/-- other slots where all is dead -/
theorem ER.swap : ∀ {σ : L2.St} {env : List D} {A : List Addr} {σ2 : L2.St}, ER K Hs H σ env A → σ2.length = σ.length → (∀ i : Nat, env[i]? ≠ some D.dead → σ2[i]? = σ[i]?) → ER K Hs H σ2 env A
  | _, _, _, σ2, .nil, hl, _ => by
    cases σ2 with
    | nil => exact .nil
    | cons a b => simp at hl
  | _, _, _, x :: σ2, .dead r, hl, h => .dead (ER.swap r (by simpa using hl) fun i hi => by simpa using h (i + 1) (by simpa using hi))
  | _, d :: _, _, x :: σ2, .cons q r, hl, h => by
    have r2 := ER.swap (σ2 := σ2) r (by simpa using hl) fun i hi => by simpa using h (i + 1) (by simpa using hi)
    by_cases e : d = D.dead
    · subst e; rw [q.dead0]; exact .dead r2
    · have := h 0 (by simpa using e)
      simp at this
      subst this
      exact .cons q r2
/-- the block's slots: wiped -/
theorem ER.wipe (r : ER K Hs H σ env A) (vs : List Nat) : ∃ A', ER K Hs H (L2.wipe σ vs) (wipeD env vs) A' ∧ ∀ a, A'.count a ≤ A.count a := by
  obtain ⟨A', h1, h2⟩ := r.wiped vs
  refine ⟨A', h1.swap (L2.wipe_length _ _) fun i hi => ?_, h2⟩
  by_cases hv : i ∈ vs
  · by_cases hl : i < env.length
    · exact absurd (wipeD_at hv hl) hi
    · have := r.length
      rw [List.getElem?_eq_none (by rw [L2.wipe_length]; omega), List.getElem?_eq_none (by omega)]
  · rw [wipe_at hv]
/-- and back -/
theorem ER.unwipe {vs : List Nat} (r : ER K Hs H (L2.wipe σ vs) (wipeD env vs) A) : ER K Hs H σ (wipeD env vs) A := by
  have hl := r.length
  refine r.swap (L2.wipe_length _ _).symm fun i hi => ?_
  by_cases hv : i ∈ vs
  · by_cases hl2 : i < env.length
    · exact absurd (wipeD_at hv hl2) hi
    · rw [wipeD_length, L2.wipe_length] at hl
      rw [List.getElem?_eq_none (by omega), List.getElem?_eq_none (by rw [L2.wipe_length]; omega)]
  · rw [wipe_at hv]
theorem isDead_iff {d : D} : isDead d = false → d ≠ D.dead := fun h e => by subst e; cases h
theorem ER.back {old : Env} {B : List Addr} (r0 : ER K Hs H σ old B) (g : ∀ a o, Hs a = some o → Hs' a = some o) : ∀ {vs : List Nat} {e : Env} {A : List Addr}, ER K Hs' H' σ e A → ∃ A', ER K Hs' H' σ (backD old vs e) A' ∧ ∀ a, A'.count a ≤ A.count a
  | [], e, A, r => ⟨A, r, fun a => Nat.le_refl _⟩
  | i :: vs, e, A, r => by
    unfold backD
    cases h : old[i]? with
    | none => exact ER.back r0 g r
    | some d =>
      dsimp only
      by_cases hd : (own d || isDead d) = true
      · rw [if_pos hd]; exact ER.back r0 g r
      · rw [if_neg hd]
        simp only [Bool.or_eq_true, not_or, Bool.not_eq_true] at hd
        obtain ⟨v, B1, A1, e1, e2, e3, e4⟩ := r0.at h (isDead_iff hd.2)
        have e5 := e2.own0 (by simp [hd.1])
        subst e5
        have rv : RL K Hs' H' [v] [d] [] := e2.mono g fun a o c => by simp at c
        obtain ⟨A2, h1, h2⟩ := r.put (i := i) rv (by
          have := r.length; have := r0.length
          have := (List.getElem?_eq_some_iff.mp h).1
          omega)
        have : σ.set i (some v) = σ := by
          apply List.ext_getElem?
          intro j
          by_cases hj : i = j
          · subst hj; rw [List.getElem?_set_self (by have := (List.getElem?_eq_some_iff.mp e1).1; exact this), e1]
          · rw [List.getElem?_set_ne hj]
        rw [this] at h1
        obtain ⟨A3, h3, h4⟩ := ER.back r0 g (vs := vs) h1
        exact ⟨A3, h3, fun a => by have := h2 a; have := h4 a; simp only [List.count_nil] at *; omega⟩
/-- target leaves the number of slots -/
def Kp (f : Tgt) : Prop := ∀ d e e', f d e = some e' → e'.length = e.length
def Kps (f : Tgts) : Prop := ∀ d e e', f d e = some e' → e'.length = e.length
theorem kp_n {i : Nat} : Kp (gN i) := fun d e e' h => by cases h; simp
theorem kps_n : Kps gsN := fun d e e' h => by
  unfold gsN at h
  split at h
  · cases h; rfl
  · cases h
theorem kps_c {f : Tgt} {fs : Tgts} (a : Kp f) (b : Kps fs) : Kps (gsC f fs) := fun d e e' h => by
  cases d with
  | nil => cases h
  | cons d ds =>
    have h : (f d e).bind (fun e => fs ds e) = some e' := h
    cases h1 : f d e with
    | none => rw [h1] at h; cases h
    | some e1 => rw [h1] at h; exact (b _ _ _ h).trans (a _ _ _ h1)
theorem kp_t {n : Nat} {fs : Tgts} (b : Kps fs) : Kp (gT n fs) := fun d e e' h => by
  unfold gT at h
  split at h
  · split at h
    · exact b _ _ _ h
    · cases h
  · cases h
def lcL (f : Tgt) (tt : Tst) (m : Exp) (vs : List Nat) : List D → Env → Option (List D × Env)
  | [], env => some ([], env)
  | d :: ds, env => match f d env with
    | none => none
    | some e => match tt e with
      | .ok p => if p.1 then (match m p.2 with
          | .ok q => (match lcL f tt m vs ds (wipeD q.2 vs) with
            | some r => some (q.1 :: r.1, r.2)
            | none => none)
          | _ => none) else lcL f tt m vs ds (wipeD p.2 vs)
      | _ => none
def eLc (n : Nat) (it : Itm) (f : Tgt) (tt : Tst) (m : Exp) (vs : List Nat) : Exp := fun env => match it env with
  | .ok p => if p.2.length = n ∧ p.1.length ≤ 100000 then (match lcL f tt m vs p.1 (wipeD p.2 vs) with
    | some r => .ok (.lst true r.1, backD p.2 vs r.2)
    | none => .no) else .no
  | .no => .no
  | .ex x e => .ex x e
theorem iteP {α : Type} {p : Prop} [Decidable p] {Q : α → Prop} {x y : α} (h1 : p → Q x) (h2 : ¬p → Q y) : Q (if p then x else y) := by
  by_cases h : p
  · rw [if_pos h]; exact h1 h
  · rw [if_neg h]; exact h2 h
theorem RL.snoc {xs : List V} {ys : List D} {y : D} (r : RL K Hs H xs ys A) (q : RL K Hs H [v] [y] B) : RL K Hs H (xs ++ [v]) (ys ++ [y]) (A ++ B) := r.app q
/-- what lies in a frame stays -/
theorem Ok.step0 (o : Ok Hs H A) (g : Go Hs H [] Hs' H' []) (s : ∀ a u, Hs' a = some u → H' a = some u) : Ok Hs' H' A := ⟨s, o.nd, fun a c => by
    rcases none_or (H := Hs') a with q | ⟨w, q⟩
    · exact q
    · rcases g.back a w q (o.off a c) with q | q
      · simp at q
      · exact absurd q (o.has a c), fun a c => by
    rcases none_or (H := H) a with q | ⟨w, q⟩
    · exact absurd q (o.has a c)
    · rw [g.keep a w q (by simp)]; simp⟩
theorem ev_lc {n : Nat} {wi : TI} {mi : Itm} {g : TG} {f : Tgt} {bm : Tst} {vs : List Nat} (ei : ItI K W wi mi) (eg : GI K ((List.range n).filter fun i => !vs.contains i) g f) (kf : Kp f) (et : EvB K W0 tt bm) (ee : EvI K W0 te me) : EvI K W (tLc wi g tt te vs) (eLc n mi f bm me vs) := by
  intro σ env F Hs H A r o
  unfold eLc
  cases h1 : mi env with
  | no => trivial
  | ex x e' => exact fun k Q => ei.ex r o h1 k _
  | ok p =>
    obtain ⟨ds, env1⟩ := p
    dsimp only
    refine iteP (fun hn => ?_) fun _ => trivial
    obtain ⟨hn, hz⟩ := hn
    cases h2 : lcL f bm me vs ds (wipeD env1 vs) with
    | none => trivial
    | some R =>
      obtain ⟨ys, envE⟩ := R
      dsimp only
      intro Q k
      refine ei.ok r o h1 fun J Hs1 H1 A1 gv r1 o1 g1 Dp hD => ?_
      obtain ⟨G, Y, wk, hG, hY⟩ := gv
      have o1D : Ok Hs1 (upd H1 Dp (.lst [])) (Dp :: (F ++ A1)) := o1.newO hD _
      have r1D : ER K Hs1 (upd H1 Dp (.lst [])) σ env1 A1 := r1.newO hD _
      obtain ⟨A1w, r1w, c1w⟩ := r1D.wipe vs
      refine lc_it wk (fun i H' => ∃ envi acc done rest Hs' Aa A', H' Dp = some (.lst acc) ∧ acc.length ≤ i ∧ RL K Hs' H' acc done Aa ∧ ER K Hs' H' (L2.wipe σ vs) (wipeD envi vs) A' ∧ Ok Hs' H' (Dp :: (Aa ++ (F ++ A'))) ∧
        Go Hs1 H1 A1 Hs' H' (Dp :: (Aa ++ A')) ∧ lcL f bm me vs (ds.drop i) (wipeD envi vs) = some (rest, envE) ∧ done ++ rest = ys)
        ⟨env1, [], [], ys, Hs1, [], A1w, upd_same, by simp, .nil, r1w, o1D.less fun a => by have := c1w a; simp only [List.count_cons, List.count_append, List.nil_append] at *; omega, (Go.newO hD _).less fun a c => by have := c1w a; simp only [List.count_cons, List.nil_append] at *; omega, h2, rfl⟩ ?_ ?_ ?_
      · rintro i H' _ ⟨ei, acc, done, rest, Hs', Aa, A', _, _, _, _, o', g', _, _⟩
        exact hG Hs' H' g'.hs o'.sub
      · rintro i x H' H2 hi ⟨envi, acc, done, rest, Hs', Aa, A', hDp, hac, ra, r', o', g', hf, hys⟩ hy
        have hd : ds[i]? = some ds[i] := List.getElem?_eq_getElem hi
        obtain ⟨Hs2, g2, s2, rx⟩ := hY i ds[i] Hs' H' x H2 hd g'.hs o'.sub hy
        rw [List.drop_eq_getElem_cons hi, lcL] at hf
        have r2 : ER K Hs2 H2 (L2.wipe σ vs) (wipeD envi vs) A' := r'.mono g2.hs fun a o _ h => g2.keep a o h (by simp)
        have ra2 : RL K Hs2 H2 acc done Aa := ra.mono g2.hs fun a o _ h => g2.keep a o h (by simp)
        have hDp2 : H2 Dp = some (.lst acc) := g2.keep _ _ hDp (by simp)
        have o2 := o'.step0 g2 s2
        have g3 : Go Hs1 H1 A1 Hs2 H2 (Dp :: (Aa ++ A')) := g'.trans g2.with0
        cases hfd : f ds[i] (wipeD envi vs) with
        | none => rw [hfd] at hf; cases hf
        | some e2 =>
          rw [hfd] at hf
          dsimp only at hf
          have o2' : Ok Hs2 H2 ([] ++ ((Dp :: (Aa ++ F)) ++ A')) := o2.less fun a => by simp only [List.count_cons, List.count_append, List.nil_append]; omega
          refine eg (L2.wipe σ vs) (wipeD envi vs) (Dp :: (Aa ++ F)) Hs2 H2 A' x ds[i] [] e2 rx r2 o2' hfd _ fun σ3 A3 q1 q2 p3 => ⟨?_, ?_⟩
          · have e1 := r2.length
            have e2 := q1.length
            have e3 := kf _ _ _ hfd
            have e4 := r1.length
            refine (wipe_eq (σ := L2.wipe σ vs) (by omega) fun j hj hjv => p3 j ?_).trans ?_
            · rw [L2.wipe_length] at hj
              simp only [List.mem_filter, List.mem_range, Bool.not_eq_true', List.contains_eq_mem, decide_eq_false_iff_not]
              exact ⟨by omega, hjv⟩
            · exact wipe_eq (by rw [L2.wipe_length]) fun j hj hjv => wipe_at hjv
          · have o3 : Ok Hs2 H2 ((Dp :: (Aa ++ F)) ++ A3) := o2'.less fun a => by have := q2 a; simp only [List.count_cons, List.count_append, List.nil_append, List.count_nil] at *; omega
            have hw3 : L2.wipe σ3 vs = L2.wipe σ vs := by
              have e1 := r2.length
              have e2 := q1.length
              have e3 := kf _ _ _ hfd
              have e4 := r1.length
              refine (wipe_eq (σ := L2.wipe σ vs) (by omega) fun j hj hjv => p3 j ?_).trans ?_
              · rw [L2.wipe_length] at hj
                simp only [List.mem_filter, List.mem_range, Bool.not_eq_true', List.contains_eq_mem, decide_eq_false_iff_not]
                exact ⟨by omega, hjv⟩
              · exact wipe_eq (by rw [L2.wipe_length]) fun j hj hjv => wipe_at hjv
            cases hb : bm e2 with
            | no => rw [hb] at hf; cases hf
            | ex x' e3 => rw [hb] at hf; cases hf
            | ok pb =>
              obtain ⟨bb, e3⟩ := pb
              rw [hb] at hf
              dsimp only at hf
              refine et.ok q1 o3 hb fun Hs4 H4 A4 r4 o4 g4 => ?_
              have hDp4 : H4 Dp = some (.lst acc) := g4.keep _ _ hDp2 (by
                have := o3.nd Dp; simp only [List.count_cons, List.count_append, beq_self_eq_true, if_true] at this; omega)
              have ra4 : RL K Hs4 H4 acc done Aa := ra2.go g4 fun a c => by
                have := o3.nd a; simp only [List.count_cons, List.count_append] at this; omega
              have g5 : Go Hs1 H1 A1 Hs4 H4 (Dp :: (Aa ++ A4)) := (g3.less (B := (Dp :: Aa) ++ A3) fun a c => by have := q2 a; simp only [List.count_cons, List.count_append, List.count_nil, List.cons_append] at *; omega).trans ((g4.frame (F := Dp :: Aa)))
              cases bb with
              | false =>
                simp only [Bool.false_eq_true, if_false] at hf ⊢
                obtain ⟨A5, r5, c5⟩ := r4.wipe vs
                rw [hw3] at r5
                exact ⟨e3, acc, done, rest, Hs4, Aa, A5, hDp4, by omega, ra4, r5, o4.less fun a => by have := c5 a; simp only [List.count_cons, List.count_append, List.cons_append]; omega, g5.less fun a c => by have := c5 a; simp only [List.count_cons, List.count_append] at *; omega, hf, hys⟩
              | true =>
                simp only [if_true] at hf ⊢
                cases he : me e3 with
                | no => rw [he] at hf; cases hf
                | ex x' e4 => rw [he] at hf; cases hf
                | ok pe =>
                  obtain ⟨y, e4⟩ := pe
                  rw [he] at hf
                  dsimp only at hf
                  cases hr : lcL f bm me vs (ds.drop (i + 1)) (wipeD e4 vs) with
                  | none => rw [hr] at hf; cases hf
                  | some R2 =>
                    obtain ⟨rest2, eE⟩ := R2
                    rw [hr] at hf
                    simp only [Option.some.injEq, Prod.mk.injEq] at hf
                    obtain ⟨hf1, hf2⟩ := hf
                    subst hf1 hf2
                    refine ee.ok r4 o4 he fun yv Hs6 H6 B6 A6 ry r6 o6 g6 => ?_
                    have hDp6 : H6 Dp = some (.lst acc) := g6.keep _ _ hDp4 (by
                      have := o4.nd Dp; simp only [List.count_cons, List.count_append, List.cons_append, beq_self_eq_true, if_true] at this; omega)
                    have ra6 : RL K Hs6 H6 acc done Aa := ra4.go g6 fun a c => by
                      have := o4.nd a; simp only [List.count_cons, List.count_append, List.cons_append] at this; omega
                    have ndD := o6.nd Dp
                    simp only [List.count_cons, List.count_append, List.cons_append, beq_self_eq_true, if_true] at ndD
                    obtain ⟨A7, r7, c7⟩ := r6.wipe vs
                    rw [hw3] at r7
                    refine ⟨acc, hDp6, Nat.lt_of_lt_of_le (show acc.length < 100001 by omega) (by decide), e4, acc ++ [yv], done ++ [y], rest2, Hs6, Aa ++ B6, A7, upd_same, by simp; omega, ?_, ?_, ?_, ?_, hr, by simp [← hys]⟩
                    · exact (ra6.wr (by omega) _).snoc (ry.wr (by omega) _)
                    · exact r7.wr (by have := c7 Dp; omega) _
                    · have o7 : Ok Hs6 H6 (Dp :: ((Aa ++ B6) ++ (F ++ A7))) := o6.less fun a => by have := c7 a; simp only [List.count_cons, List.count_append, List.cons_append]; omega
                      exact o7.wr fun a => Nat.le_refl _
                    · have g7 : Go Hs1 H1 A1 Hs6 H6 (Dp :: ((Aa ++ B6) ++ A7)) := (g5.trans (g6.frame (F := Dp :: Aa))).less fun a c => by have := c7 a; simp only [List.count_cons, List.count_append, List.cons_append] at *; omega
                      exact g7.trans (Go.wr (by simp) _)
      · rintro H' ⟨envi, acc, done, rest, Hs', Aa, A', hDp, hac, ra, r', o', g', hf, hys⟩
        rw [List.drop_eq_nil_of_le (Nat.le_refl _), lcL] at hf
        simp only [Option.some.injEq, Prod.mk.injEq] at hf
        obtain ⟨hf1, hf2⟩ := hf
        subst hf1 hf2
        simp only [List.append_nil] at hys
        subst hys
        obtain ⟨A8, r8, c8⟩ := ER.back r1 g'.hs (vs := vs) r'.unwipe
        refine k (.ref Dp) Hs' H' (Dp :: Aa) A8 ?_ r8 (o'.less fun a => by have := c8 a; simp only [List.count_cons, List.count_append, List.cons_append]; omega) ((g1.trans g').less fun a c => by have := c8 a; simp only [List.count_cons, List.count_append, List.cons_append] at *; omega)
        simpa using RL.lstO hDp ra .nil
def bYes : Tst := fun env => .ok (true, env)
theorem eb_yes : EvB K W tYes bYes := fun σ env F Hs H A r o Q k => k Hs H A r o Go.refl
end
def ITs (X : Cx) (W : Wh) (cs : List Expr) (m : Tst) : Prop := ∃ t, PTs X cs t ∧ EvB X.K W t m
section
variable {X : Cx} {W : Wh} {P : List Nat} {a b c e elt tg iter : Expr} {es ifs : List Expr} {ma mb m : Exp} {ms : Arg} {pos p : Pos} {x : Str} {bm bn : Tst}
theorem its_nil : ITs X W [] bYes := ⟨_, pts_nil, eb_yes⟩
theorem its_one (h : IB X W c bm) : ITs X W [c] bm := let ⟨_, h1, h2⟩ := h; ⟨_, pts_one h1, h2⟩
theorem ie_all {ι : Type} {X : ι → Cx} {K : PySem.W.Frag} {e : Expr} {m : Exp} (hK : ∀ i, (X i).K = K) (h : ∀ i, IE (X i) W e m) : ∃ t, (∀ i, PE (X i) e t) ∧ EvI K W t m := by
  refine ⟨fun σ H Q => ∀ i, Classical.choose (h i) σ H Q, fun i => ⟨fun pins s σ H Q I q => (Classical.choose_spec (h i)).1.run pins s σ H Q I (q i)⟩, fun σ env F Hs H A r o => ?_⟩
  have key : ∀ i, PostE K W (Classical.choose (h i)) σ F Hs H A (m env) := fun i => by
    have q := (Classical.choose_spec (h i)).2
    have z : ∀ K', (X i).K = K' → EvI K' W (Classical.choose (h i)) m := fun K' e => by subst e; exact q
    exact z K (hK i) σ env F Hs H A r o
  cases hm : m env with
  | no => trivial
  | ok p => exact fun Q k i => (hm ▸ key i : PostE K W _ σ F Hs H A (.ok p)) Q k
  | ex x e' => exact fun k Q i => (hm ▸ key i : PostE K W _ σ F Hs H A (.ex x e')) k Q
theorem its_all {ι : Type} {X : ι → Cx} {K : PySem.W.Frag} {m : Tst} (hK : ∀ i, (X i).K = K) (h : ∀ i, ITs (X i) W ifs m) : ∃ t, (∀ i, PTs (X i) ifs t) ∧ EvB K W t m := by
  refine ⟨fun σ H Q => ∀ i, Classical.choose (h i) σ H Q, fun i => ⟨fun pins s σ H Q I q => (Classical.choose_spec (h i)).1.run pins s σ H Q I (q i)⟩, fun σ env F Hs H A r o => ?_⟩
  have key : ∀ i, PostB K W (Classical.choose (h i)) σ F Hs H A (m env) := fun i => by
    have q := (Classical.choose_spec (h i)).2
    have z : ∀ K', (X i).K = K' → EvB K' W (Classical.choose (h i)) m := fun K' e => by subst e; exact q
    exact z K (hK i) σ env F Hs H A r o
  cases hm : m env with
  | no => trivial
  | ok p => exact fun Q k i => (hm ▸ key i : PostB K W _ σ F Hs H A (.ok p)) Q k
  | ex x e' => exact fun k Q i => (hm ▸ key i : PostB K W _ σ F Hs H A (.ex x e')) k Q
theorem ig_all {ι : Type} {X : ι → Cx} {K : PySem.W.Frag} {e : Expr} {f : Tgt} (hK : ∀ i, (X i).K = K) (h : ∀ i, IG (X i) P e f) : ∃ g, (∀ i, PG (X i) e g) ∧ GI K P g f := by
  refine ⟨fun v σ H Q => ∀ i, Classical.choose (h i) v σ H Q, fun i => ⟨fun pins s σ H x v Q I rv q => (Classical.choose_spec (h i)).1.run pins s σ H x v Q I rv (q i)⟩, fun σ env F Hs H A v d B env' rv r o he Q k i => ?_⟩
  have q := (Classical.choose_spec (h i)).2
  have z : ∀ K', (X i).K = K' → GI K' P (Classical.choose (h i)) f := fun K' e => by subst e; exact q
  exact z K (hK i) σ env F Hs H A v d B env' rv r o he Q k
abbrev Ix := Shared × Hp × Addr × List (Str × Addr) × List Addr
def blkOf (X : Cx) (scope : Scope) (i : Ix) : Cx := X.blk i.1 i.2.1 scope (compEnvC scope i.2.2.2.1 i.2.2.1 X.env) i.2.2.2.2
theorem ie_lc {scope : Scope} {n : Nat} {mi : Itm} {f : Tgt} (own : List (Str × Nat)) (N : List Str) (sc : Scope) (hc : X.calm = true) (hN : X.N.Nodup) (hi : II X W tg iter mi) (kf : Kp f)
    (hg : ∀ i : Ix, IG (blkOf X scope i) ((List.range n).filter fun i => !(own.map (·.2)).contains i) tg f) (ht : ∀ i : Ix, ITs (blkOf X scope i) W0 ifs bm) (he : ∀ i : Ix, IE (blkOf X scope i) W0 elt m)
    (ok : blkC N sc scope own = true := by decide +kernel) (eN : X.N = N := by rfl) (eS : X.env.scope = sc := by rfl) (hs : ∀ x, foldedSetIterable iter X.env x = pure x := by intro _; rfl) :
    IE X W (.ListComp elt [⟨tg, iter, ifs, 0⟩] scope pos) (eLc n mi f bm m (own.map (·.2))) := by
  obtain ⟨wi, i1, i2⟩ := hi
  obtain ⟨g, g1, g2⟩ := ig_all (K := X.K) (X := blkOf X scope) (fun _ => rfl) hg
  obtain ⟨tt, t1, t2⟩ := its_all (K := X.K) (X := blkOf X scope) (fun _ => rfl) ht
  obtain ⟨te, e1, e2⟩ := ie_all (K := X.K) (X := blkOf X scope) (fun _ => rfl) he
  exact ⟨_, pe_lc hc hN i1 (blkOk_by (by rw [eN, eS]; exact ok)) (fun s H C cl fp => g1 (s, H, C, cl, fp)) (fun s H C cl fp => t1 (s, H, C, cl, fp)) (fun s H C cl fp => e1 (s, H, C, cl, fp)) hs, ev_lc i2 g2 kf t2 e2⟩
theorem is_setLc {scope : Scope} {n : Nat} {mi : Itm} {f : Tgt} {py spos : Pos} (i : Nat) (own : List (Str × Nat)) (N : List Str) (sc : Scope) (hc : X.calm = true) (hN : X.N.Nodup) (hi : II X W tg iter mi) (kf : Kp f)
    (hg : ∀ i : Ix, IG (blkOf X scope i) ((List.range n).filter fun i => !(own.map (·.2)).contains i) tg f) (ht : ∀ i : Ix, ITs (blkOf X scope i) W0 ifs bm) (he : ∀ i : Ix, IE (blkOf X scope i) W0 elt m)
    (hP : i ∉ P := by decide) (hy : X.N[i]? = some x := by rfl) (hyl : X.env.scope.names.lookup x = some .local := by rfl) (hk : X.env.scope.kind = .function := by rfl) (hl : (py.line == pos.line) = true := by rfl)
    (ha : (scope.names.any fun (n, k) => n == x && (k == .local || k == .cell)) = false := by decide +kernel)
    (ok : blkC N sc scope own = true := by decide +kernel) (eN : X.N = N := by rfl) (eS : X.env.scope = sc := by rfl) (hs : ∀ x, foldedSetIterable iter X.env x = pure x := by intro _; rfl) :
    IS X W P (.Assign [.Name x py] (.ListComp elt [⟨tg, iter, ifs, 0⟩] scope pos) spos) (sAsg (eLc n mi f bm m (own.map (·.2))) (gN i)) := by
  obtain ⟨wi, i1, i2⟩ := hi
  obtain ⟨g, g1, g2⟩ := ig_all (K := X.K) (X := blkOf X scope) (fun _ => rfl) hg
  obtain ⟨tt, t1, t2⟩ := its_all (K := X.K) (X := blkOf X scope) (fun _ => rfl) ht
  obtain ⟨te, e1, e2⟩ := ie_all (K := X.K) (X := blkOf X scope) (fun _ => rfl) he
  exact ⟨_, ps_setLc hc hN hy hyl (sw_true hk hyl hl ha) i1 (blkOk_by (by rw [eN, eS]; exact ok)) (fun s H C cl fp => g1 (s, H, C, cl, fp)) (fun s H C cl fp => t1 (s, H, C, cl, fp)) (fun s H C cl fp => e1 (s, H, C, cl, fp)) hs, st_asg (ev_lc i2 g2 kf t2 e2) (gi_name hP)⟩
end
section
variable {env : Env} {d : D} {n i : Nat} {m : Exp} {it : Itm} {f : Tgt} {b : Tst} {vs : List Nat} {ds : List D}
@[simp] theorem bYes_app : bYes env = .ok (true, env) := rfl
@[simp] theorem wipeD_nil : wipeD env [] = env := rfl
@[simp] theorem wipeD_cons : wipeD env (i :: vs) = (wipeD env vs).set i .dead := rfl
@[simp] theorem backD_nil {old : Env} : backD old [] env = env := rfl
@[simp] theorem backD_cons {old : Env} : backD old (i :: vs) env = backD old vs (match old[i]? with | some d => if own d || isDead d then env else env.set i d | none => env) := rfl
@[simp] theorem eLc_app : eLc n it f b m vs env = (match it env with
  | .ok p => if p.2.length = n ∧ p.1.length ≤ 100000 then (match lcL f b m vs p.1 (wipeD p.2 vs) with
    | some r => .ok (.lst true r.1, backD p.2 vs r.2)
    | none => .no) else .no
  | .no => .no
  | .ex x e => .ex x e) := rfl
@[simp] theorem lcL_nil : lcL f b m vs [] env = some ([], env) := rfl
end
end Fl
namespace Fl
open PySem PySem.Spec PyProof.Rows L2
end Fl
namespace Fl
open PySem PySem.Spec PyProof.Rows L2
section
variable {K : PySem.W.Frag} {W : Wh} {σ : L2.St} {env env' : Env} {F A A' B C : List Addr} {Hs H Hs' H' : Hp} {t ta tb : TE} {m ma mb : Exp} {c d d1 d2 : D} {v : V} {vs : List V} {ds : List D}
/-- its items shared -/
def shI : D → D
  | .lst o ds => .lst o (shL ds)
  | .tup ds => .tup (shL ds)
  | .frz ds => .frz (shL ds)
  | .dct o ks ds => .dct o ks (shL ds)
  | .obj o c ns ds => .obj o c ns (shL ds)
  | d => d
theorem RL.shs (r : RL K Hs H vs ds []) : RL K Hs H vs (shL ds) [] := r.share (fun _ _ h => h) fun a c => by simp at c
/-- the items shared, the thing itself as it was -/
theorem RL.shIt (r : RL K Hs H [v] [c] B) (o : Ok Hs H (B ++ C)) : ∃ Hs1 B1, RL K Hs1 H [v] [shI c] B1 ∧ Ok Hs1 H (B1 ++ C) ∧ (∀ a u, Hs a = some u → Hs1 a = some u) ∧ (∀ a, B1.count a ≤ B.count a) ∧ ∀ a u, Hs1 a = some u → Hs a = none → 0 < B.count a := by
  have triv : shI c = c → ∃ Hs1 B1, RL K Hs1 H [v] [shI c] B1 ∧ Ok Hs1 H (B1 ++ C) ∧ (∀ a u, Hs a = some u → Hs1 a = some u) ∧ (∀ a, B1.count a ≤ B.count a) ∧ ∀ a u, Hs1 a = some u → Hs a = none → 0 < B.count a := fun e => by
    rw [e]
    exact ⟨Hs, B, r, o, fun _ _ h => h, fun _ => Nat.le_refl _, fun a u h n => by rw [n] at h; cases h⟩
  cases r with
  | sc h r => refine triv ?_; cases v <;> simp [scD] at h <;> subst h <;> rfl
  | @tup a xs es A1 vs1 ds1 B1 h1 h2 h3 =>
    cases h3
    have o1 : Ok Hs H (A1 ++ C) := o.less fun a => by simp only [List.count_append]; omega
    refine ⟨pool Hs H A1, [], ?_, o1.pool, pool_ext o1, fun a => by simp, fun a u h n => ?_⟩
    · simpa [shI] using RL.tup (ext_t (pool_ext o1) h1) (h2.shareL o1) RL.nil
    · rw [List.count_append]
      by_cases q : 0 < A1.count a
      · omega
      · rw [pool_out (by omega), n] at h; cases h
  | @frz a xs es vs1 ds1 B1 h1 h2 h3 =>
    cases h3
    exact ⟨Hs, [], .frz h1 h2.shs .nil, o, fun _ _ h => h, fun _ => Nat.le_refl _, fun a u h n => by rw [n] at h; cases h⟩
  | @lstS a xs es vs1 ds1 B1 h1 h2 h3 =>
    cases h3
    exact ⟨Hs, [], .lstS h1 h2.shs .nil, o, fun _ _ h => h, fun _ => Nat.le_refl _, fun a u h n => by rw [n] at h; cases h⟩
  | @exo a c l vs1 ds1 B1 h1 h3 =>
    cases h3
    exact ⟨Hs, [], .exo h1 .nil, o, fun _ _ h => h, fun _ => Nat.le_refl _, fun a u h n => by rw [n] at h; cases h⟩
  | @dctS a kvs ks es vs1 ds1 B1 h1 hk h2 h3 =>
    cases h3
    exact ⟨Hs, [], .dctS h1 hk h2.shs .nil, o, fun _ _ h => h, fun _ => Nat.le_refl _, fun a u h n => by rw [n] at h; cases h⟩
  | @objS a Cc dx fs c ns es vs1 ds1 B1 hc h1 hk h2 h3 =>
    cases h3
    exact ⟨Hs, [], .objS hc h1 hk h2.shs .nil, o, fun _ _ h => h, fun _ => Nat.le_refl _, fun a u h n => by rw [n] at h; cases h⟩
  | @obj a Cc dx fs c ns es A1 vs1 ds1 B1 hc h1 hk h2 h3 =>
    cases h3
    have o1 : Ok Hs H (A1 ++ (a :: C)) := o.less fun a => by simp only [List.count_append, List.count_cons, List.cons_append, List.count_nil]; omega
    refine ⟨pool Hs H A1, [a], ?_, o1.pool, pool_ext o1, fun b => by simp only [List.count_append, List.count_cons, List.count_nil]; omega, fun b u h n => ?_⟩
    · simpa [shI] using RL.obj hc h1 hk (h2.shareL o1) RL.nil
    · rw [List.count_cons, List.count_append]
      by_cases q : 0 < A1.count b
      · omega
      · rw [pool_out (by omega), n] at h; cases h
  | @lstO a xs es A1 vs1 ds1 B1 h1 h2 h3 =>
    cases h3
    have o1 : Ok Hs H (A1 ++ (a :: C)) := o.less fun a => by simp only [List.count_append, List.count_cons, List.cons_append, List.count_nil]; omega
    refine ⟨pool Hs H A1, [a], ?_, o1.pool, pool_ext o1, fun b => by simp only [List.count_append, List.count_cons, List.count_nil]; omega, fun b u h n => ?_⟩
    · simpa [shI] using RL.lstO h1 (h2.shareL o1) RL.nil
    · rw [List.count_cons, List.count_append]
      by_cases q : 0 < A1.count b
      · omega
      · rw [pool_out (by omega), n] at h; cases h
  | @dct a kvs ks es A1 vs1 ds1 B1 h1 hk h2 h3 =>
    cases h3
    have o1 : Ok Hs H (A1 ++ (a :: C)) := o.less fun a => by simp only [List.count_append, List.count_cons, List.cons_append, List.count_nil]; omega
    refine ⟨pool Hs H A1, [a], ?_, o1.pool, pool_ext o1, fun b => by simp only [List.count_append, List.count_cons, List.count_nil]; omega, fun b u h n => ?_⟩
    · simpa [shI] using RL.dct h1 hk (h2.shareL o1) RL.nil
    · rw [List.count_cons, List.count_append]
      by_cases q : 0 < A1.count b
      · omega
      · rw [pool_out (by omega), n] at h; cases h
  | dead h => exact triv rfl
/-- what such a value's part of the owned is -/
theorem Go.shIt (e : ∀ a u, Hs a = some u → Hs' a = some u) (b : ∀ a u, Hs' a = some u → Hs a = none → 0 < B.count a) (l : ∀ a, C.count a ≤ B.count a) : Go Hs H (B ++ A) Hs' H (C ++ A) :=
  ⟨e, fun a o h _ => h, fun a o h n => .inl (by have := b a o h n; rw [List.count_append]; omega), fun a c => .inl (by have := l a; rw [List.count_append] at *; omega)⟩
/-- a built-in of one thing whose items own nothing: what it tells is new -/
def CaG (K : PySem.W.Frag) (r : List V → Hp → VK → Prop) (f : D → Option D) : Prop := ∀ Hs H v c B C d, RL K Hs H [v] [shI c] B → Ok Hs H (B ++ C) → f (shI c) = some d → ∀ Q : VK,
  (∀ v' Hs' H' B', RL K Hs' H' [v'] [d] B' → Ok Hs' H' (B' ++ (B ++ C)) → Go Hs H [] Hs' H' B' → Q v' H') → r [v] H Q
def eG1 (f : D → Option D) (m : Exp) : Exp := fun env => (m env).bind fun p => match f (shI p.1) with
  | some d => .ok (d, p.2)
  | none => .no
theorem ev_g1 {r : List V → Hp → VK → Prop} {f : D → Option D} (hr : CaG K r f) (e : EvI K W t m) : EvI K W (tCB r (tCons t tNil)) (eG1 f m) := by
  intro σ env F Hs H A rr o
  unfold eG1
  cases h1 : m env with
  | no => trivial
  | ex x e' => exact fun k Q => e.ex rr o h1 k _
  | ok p =>
    obtain ⟨c, env1⟩ := p
    simp only [Res.bind_ok]
    cases h2 : f (shI c) with
    | none => trivial
    | some d =>
      intro Q k
      refine e.ok rr o h1 fun v Hs1 H1 B1 A1 rv r1 o1 g1 => ?_
      obtain ⟨Hs2, B2, q1, q2, q3, q4, q5⟩ := rv.shIt o1
      have g2 : Go Hs H A Hs2 H1 (B2 ++ A1) := g1.trans (Go.shIt q3 q5 q4)
      refine hr Hs2 H1 v c B2 (F ++ A1) d q1 q2 h2 Q fun v' Hs3 H3 B3 r3 o3 g3 => ?_
      have r2 : ER K Hs2 H1 σ env1 A1 := r1.mono q3 fun a o _ h => h
      refine k v' Hs3 H3 B3 A1 r3 (r2.mono g3.hs fun a o _ h => g3.keep a o h (by simp)) (o3.less fun a => by simp only [List.count_append]; omega) ?_
      have g4 : Go Hs2 H1 (B2 ++ A1) Hs3 H3 ((B2 ++ A1) ++ B3) := (g3.frame (F := B2 ++ A1)).more fun a c => by simpa using c
      exact (g2.trans g4).less fun a c => by simp only [List.count_append] at *; omega
def eG1V (f : D → Option D) (i : Nat) : Exp := fun env => match env[i]? with
  | some c => if isDead c then .no else (match f (shI c) with
    | some d => .ok (d, env.set i (shI c))
    | none => .no)
  | none => .no
theorem ER.openI (r : ER K Hs H σ env A) (o : Ok Hs H (F ++ A)) {i : Nat} (h : env[i]? = some c) (hd : isDead c = false) : ∃ v Hs1 B1 A1 A2, σ[i]? = some (some v) ∧ RL K Hs1 H [v] [shI c] B1 ∧ Ok Hs1 H (B1 ++ (F ++ A1)) ∧ Go Hs H A Hs1 H (B1 ++ A1) ∧
    ER K Hs1 H σ (env.set i (shI c)) A2 ∧ ∀ a, A2.count a = B1.count a + A1.count a := by
  obtain ⟨v, B, A1, e1, e2, e3, e4⟩ := r.at h (isDead_iff hd)
  have o1 : Ok Hs H (B ++ (F ++ A1)) := o.less fun a => by have := e4 a; simp only [List.count_append]; omega
  obtain ⟨Hs2, B2, q1, q2, q3, q4, q5⟩ := e2.shIt o1
  obtain ⟨A3, p1, p2⟩ := ER.give (e3.mono q3 fun a o _ h => h) q1 e1 (List.getElem?_eq_some_iff.mp h).1
  exact ⟨v, Hs2, B2, A1, A3, e1, q1, q2, (Go.shIt q3 q5 q4).more fun a c => by have := e4 a; simp only [List.count_append] at *; omega, p1, p2⟩
theorem ev_g1V {r : List V → Hp → VK → Prop} {f : D → Option D} {i : Nat} (hr : CaG K r f) : EvI K W (tCB r (tCons (tVar i) tNil)) (eG1V f i) := by
  intro σ env F Hs H A rr o
  unfold eG1V
  cases h : env[i]? with
  | none => trivial
  | some c =>
    dsimp only
    cases hd : isDead c with
    | true => trivial
    | false =>
      simp only [Bool.false_eq_true, if_false]
      cases h2 : f (shI c) with
      | none => trivial
      | some d =>
        intro Q k
        obtain ⟨v, Hs1, B1, A1, A2, e1, q1, q2, g1, p1, p2⟩ := rr.openI o h hd
        refine ⟨v, e1, ?_⟩
        refine hr Hs1 H v c B1 (F ++ A1) d q1 q2 h2 Q fun v' Hs3 H3 B3 r3 o3 g3 => ?_
        refine k v' Hs3 H3 B3 A2 r3 (p1.mono g3.hs fun a o _ h => g3.keep a o h (by simp)) (o3.less fun a => by have := p2 a; simp only [List.count_append]; omega) ?_
        have g4 : Go Hs1 H (B1 ++ A1) Hs3 H3 ((B1 ++ A1) ++ B3) := (g3.frame (F := B1 ++ A1)).more fun a c => by simpa using c
        exact (g1.trans g4).less fun a c => by have := p2 a; simp only [List.count_append] at *; omega
/-- two names compared, or a name at the right, as they stand -/
def eBinV (f : D → D → Option D) (ma : Exp) (i : Nat) : Exp := fun env => (ma env).bind fun p => match p.2[i]? with
  | some c => if isDead c then .no else (match f p.1 c with
    | some d => .ok (d, p.2)
    | none => .no)
  | none => .no
theorem ev_binV {r : R2} {f : D → D → Option D} {i : Nat} (hr : OpS K r f) (ea : EvI K W ta ma) : EvI K W (tOp r ta (tVar i)) (eBinV f ma i) := by
  intro σ env F Hs H A rr o
  unfold eBinV
  cases h1 : ma env with
  | no => trivial
  | ex x e => exact fun k Q => ea.ex rr o h1 k _
  | ok p =>
    obtain ⟨d1, env1⟩ := p
    simp only [Res.bind_ok]
    cases h : env1[i]? with
    | none => trivial
    | some c =>
      dsimp only
      cases hd : isDead c with
      | true => trivial
      | false =>
        simp only [Bool.false_eq_true, if_false]
        cases h2 : f d1 c with
        | none => trivial
        | some d =>
          intro Q k
          refine ea.ok rr o h1 fun x Hs1 H1 B1 A1 rx r1 o1 g1 => ?_
          obtain ⟨v, B, A2, e1, e2, e3, e4⟩ := r1.at h (isDead_iff hd)
          obtain ⟨y, hy, q⟩ := hr Hs1 H1 x v d1 c B1 B d o1.sub rx e2 h2
          exact ⟨v, e1, q Q (k y Hs1 H1 [] A1 (.sc hy .nil) r1 (o1.less fun a => by simp only [List.count_append, List.count_nil]; omega) (g1.less fun a c => by simp only [List.count_append, List.count_nil] at c ⊢; omega))⟩
/-- a name at the left -/
def eBinL (f : D → D → Option D) (i : Nat) (mb : Exp) : Exp := fun env => if live env i then (mb env).bind fun q => match q.2[i]? with
  | some c => if isDead c then .no else (match f c q.1 with
    | some d => .ok (d, q.2)
    | none => .no)
  | none => .no else .no
theorem ev_binL {r : R2} {f : D → D → Option D} {i : Nat} (hr : OpS K r f) (eb : EvI K W tb mb) : EvI K W (tOp r (tVar i) tb) (eBinL f i mb) := by
  intro σ env F Hs H A rr o
  unfold eBinL
  cases hl : live env i with
  | false => trivial
  | true =>
  obtain ⟨v, hv⟩ := live_at rr hl
  rw [if_pos rfl]
  cases h1 : mb env with
  | no => trivial
  | ex x e => exact fun k Q => ⟨v, hv, eb.ex rr o h1 k _⟩
  | ok p =>
    obtain ⟨d1, env1⟩ := p
    simp only [Res.bind_ok]
    cases h : env1[i]? with
    | none => trivial
    | some c =>
      dsimp only
      cases hd : isDead c with
      | true => trivial
      | false =>
        simp only [Bool.false_eq_true, if_false]
        cases h2 : f c d1 with
        | none => trivial
        | some d =>
          intro Q k
          refine ⟨v, hv, eb.ok rr o h1 fun x Hs1 H1 B1 A1 rx r1 o1 g1 => ?_⟩
          obtain ⟨v', B, A2, e1, e2, e3, e4⟩ := r1.at h (isDead_iff hd)
          rw [hv] at e1; cases e1
          obtain ⟨y, hy, q⟩ := hr Hs1 H1 v x c d1 B B1 d o1.sub e2 rx h2
          exact q Q (k y Hs1 H1 [] A1 (.sc hy .nil) r1 (o1.less fun a => by simp only [List.count_append, List.count_nil]; omega) (g1.less fun a c => by simp only [List.count_append, List.count_nil] at c ⊢; omega))
theorem new_lst {ys : List V} {es : List D} (r : RL K Hs H ys es []) (o : Ok Hs H C) {Q : VK} (k : ∀ v' Hs' H' B', RL K Hs' H' [v'] [.lst true es] B' → Ok Hs' H' (B' ++ C) → Go Hs H [] Hs' H' B' → Q v' H') : ∀ p, H p = none → Q (.ref p) (upd H p (.lst ys)) := fun p hp =>
  k _ Hs _ [p] (by simpa using RL.lstO (A := []) (upd_same) (r.newO hp _) RL.nil) (o.newO hp _) (Go.newO hp _)
theorem new_sc {y : V} {e : D} (h : scD y = some e) (o : Ok Hs H C) {Q : VK} (k : ∀ v' Hs' H' B', RL K Hs' H' [v'] [e] B' → Ok Hs' H' (B' ++ C) → Go Hs H [] Hs' H' B' → Q v' H') : Q y H := k y Hs H [] (.sc h .nil) o Go.refl
/-- the items of a thing whose items own nothing -/
theorem itD_sh {c : D} {ds : List D} (h : itD (shI c) = some ds) : ∃ es, ds = shL es := by
  cases c <;> simp [shI, itD] at h <;> subst h <;> exact ⟨_, rfl⟩
theorem RL.items0 {x : V} (r : RL K Hs H [x] [shI c] B) (s : ∀ a o, Hs a = some o → H a = some o) (h : itD (shI c) = some ds) : ∃ p xs, x = .ref p ∧ (SqL K H p xs ∨ SqT K H p xs) ∧ RL K Hs H xs ds [] := by
  obtain ⟨p, xs, B', e1, e2, e3, e4⟩ := r.items s h
  obtain ⟨es, rfl⟩ := itD_sh h
  rw [e3.own0 (ownL_shL es)] at e3
  exact ⟨p, xs, e1, e2, e3⟩
def gList (c : D) : Option D := (itD c).map (.lst true)
theorem cg_list : CaG K (fun xs H Q => ∃ p ys, xs = [.ref p] ∧ (SqL K H p ys ∨ SqT K H p ys) ∧ ∀ l, H l = none → Q (.ref l) (upd H l (.lst ys))) gList := by
  intro Hs H v c B C d r o h Q k
  unfold gList at h
  cases e : itD (shI c) with
  | none => rw [e] at h; cases h
  | some ds =>
    rw [e] at h; cases h
    obtain ⟨p, xs, rfl, hq, ri⟩ := r.items0 o.sub e
    exact ⟨p, xs, rfl, hq, new_lst ri o k⟩
def gTuple : D → Option D
  | .lst _ ds => some (.tup ds)
  | .frz ds => some (.tup ds)
  | .tup ds => some (.tup ds)
  | _ => none
def toInts : List D → Option (List Int)
  | [] => some []
  | .int i :: ds => (toInts ds).map (i :: ·)
  | _ => none
def toBls : List D → Option (List Bool)
  | [] => some []
  | .bl i :: ds => (toBls ds).map (i :: ·)
  | _ => none
theorem RL.ints : ∀ {ds : List D} {vs : List V} {B : List Addr} {ns : List Int}, RL K Hs H vs ds B → toInts ds = some ns → vs = ns.map V.int
  | [], _, _, ns, r, h => by cases r; simp [toInts] at h; subst h; rfl
  | d :: ds, vs, B, ns, r, h => by
    cases d <;> simp only [toInts, reduceCtorEq] at h
    rename_i i
    cases e : toInts ds with
    | none => rw [e] at h; cases h
    | some ms =>
      rw [e] at h
      simp at h
      subst h
      cases vs with
      | nil => cases r
      | cons v vs =>
        obtain ⟨B1, B2, _, r1, r2⟩ := RL.un r
        rw [RL.ints r2 e, r1.int]; rfl
theorem RL.bls : ∀ {ds : List D} {vs : List V} {B : List Addr} {ns : List Bool}, RL K Hs H vs ds B → toBls ds = some ns → vs = ns.map V.bl
  | [], _, _, ns, r, h => by cases r; simp [toBls] at h; subst h; rfl
  | d :: ds, vs, B, ns, r, h => by
    cases d <;> simp only [toBls, reduceCtorEq] at h
    rename_i i
    cases e : toBls ds with
    | none => rw [e] at h; cases h
    | some ms =>
      rw [e] at h
      simp at h
      subst h
      cases vs with
      | nil => cases r
      | cons v vs =>
        obtain ⟨B1, B2, _, r1, r2⟩ := RL.un r
        rw [RL.bls r2 e, r1.bl]; rfl
def lsD : D → Option (List D)
  | .lst _ ds => some ds
  | .frz ds => some ds
  | _ => none
theorem RL.lsItems {x : V} (r : RL K Hs H [x] [shI c] B) (s : ∀ a o, Hs a = some o → H a = some o) (h : lsD (shI c) = some ds) : ∃ p xs, x = .ref p ∧ SqL K H p xs ∧ RL K Hs H xs ds [] := by
  cases c with
  | lst ow es =>
    simp only [shI, lsD, Option.some.injEq] at h r
    subst h
    obtain ⟨p, xs, A, rfl, e2, e3, e4⟩ := r.lst_inv s
    rw [e3.own0 (ownL_shL es)] at e3
    exact ⟨p, xs, rfl, .of e2, e3⟩
  | frz es =>
    simp only [shI, lsD, Option.some.injEq] at h r
    subst h
    cases r with
    | sc h _ => cases x <;> simp [scD] at h
    | @frz a xs es vs ds' B h1 h2 h3 => exact ⟨a, xs, rfl, ext_l s h1, h2⟩
  | _ => simp [shI, lsD] at h
def gAll (c : D) : Option D := (lsD c).bind fun ds => (toBls ds).map fun bs => .bl (bs.all id)
def gSort (c : D) : Option D := (lsD c).bind fun ds => (toInts ds).map fun ns => .lst true ((ns.mergeSort).map .int)
theorem two_bind {α β γ : Type} {x : Option α} {f : α → Option β} {y : β} (h : x.bind f = some y) : ∃ a, x = some a ∧ f a = some y := by
  cases x with
  | none => cases h
  | some a => exact ⟨a, rfl, h⟩
theorem two_map {α β : Type} {x : Option α} {f : α → β} {y : β} (h : x.map f = some y) : ∃ a, x = some a ∧ f a = y := by
  cases x with
  | none => cases h
  | some a => exact ⟨a, rfl, Option.some.inj h⟩
theorem cg_all : CaG K (rAll K) gAll := by
  intro Hs H v c B C d r o h Q k
  obtain ⟨ds, h1, h2⟩ := two_bind (γ := Nat) h
  obtain ⟨bs, h3, rfl⟩ := two_map h2
  obtain ⟨p, xs, rfl, h4, h5⟩ := r.lsItems o.sub h1
  have := h5.bls h3
  subst this
  exact ⟨p, bs, rfl, h4, new_sc rfl o k⟩
theorem sort_uniq {xs ys : List Int} (h : xs.Perm ys) (h1 : xs.Pairwise (· ≤ ·)) (h2 : ys.Pairwise (· ≤ ·)) : xs = ys := h.eq_of_pairwise (fun a b _ _ p q => Int.le_antisymm p q) h1 h2
theorem cg_sort : CaG K (rSortedI K) gSort := by
  intro Hs H v c B C d r o h Q k
  obtain ⟨ds, h1, h2⟩ := two_bind (γ := Nat) h
  obtain ⟨ns, h3, rfl⟩ := two_map h2
  obtain ⟨p, xs, rfl, h4, h5⟩ := r.lsItems o.sub h1
  have := h5.ints h3
  subst this
  refine ⟨p, ns, rfl, h4, fun ns' q hp hw hq => ?_⟩
  have e : ns' = ns.mergeSort := sort_uniq (hp.trans (List.mergeSort_perm ns _).symm) hw ((List.pairwise_mergeSort (le := fun a b : Int => decide (a ≤ b)) (by intro a b c; simp; omega) (by intro a b; simp; omega) ns).imp (by simp))
  subst e
  have : RL K Hs H ((ns.mergeSort).map V.int) ((ns.mergeSort).map D.int) [] := rl_ints _
  exact new_lst this o k q hq
end
end Fl
namespace Fl
open PySem PySem.Spec PyProof.Rows L2
section
variable {K : PySem.W.Frag} {W : Wh} {σ : L2.St} {env env' : Env} {F A A' B C : List Addr} {Hs H Hs' H' : Hp} {t ta tb tc : TE} {m ma mb mc : Exp} {c d d1 d2 : D} {v : V} {vs : List V} {ds : List D} {P : List Nat}
def valD : D → Option V
  | .non => some .non
  | .bl b => some (.bl b)
  | .int i => some (.int i)
  | .str x => some (.str x)
  | _ => none
def valsD : List D → Option (List V)
  | [] => some []
  | d :: ds => (valD d).bind fun x => (valsD ds).map (x :: ·)
theorem RL.valD {x : V} (r : RL K Hs H [v] [d] B) (h : valD d = some x) : v = x ∧ flatV x = true := by
  cases d <;> simp only [Fl.valD, reduceCtorEq, Option.some.injEq] at h <;> subst h
  · cases r with
    | sc h _ => cases v <;> simp [scD] at h; exact ⟨rfl, rfl⟩
  · exact ⟨r.bl, rfl⟩
  · exact ⟨r.int, rfl⟩
  · cases r with
    | sc h _ => cases v <;> simp [scD] at h; subst h; exact ⟨rfl, rfl⟩
theorem RL.valsD : ∀ {ds : List D} {vs xs : List V} {B : List Addr}, RL K Hs H vs ds B → valsD ds = some xs → vs = xs ∧ xs.all flatV = true
  | [], _, xs, _, r, h => by cases r; simp [Fl.valsD] at h; subst h; exact ⟨rfl, rfl⟩
  | d :: ds, [], xs, _, r, h => by cases r
  | d :: ds, v :: vs, xs, B, r, h => by
    obtain ⟨B1, B2, _, r1, r2⟩ := RL.un r
    obtain ⟨x, h1, h2⟩ := two_bind (γ := Nat) (show (Fl.valD d).bind (fun x => (Fl.valsD ds).map (x :: ·)) = some xs from h)
    obtain ⟨ys, h3, rfl⟩ := two_map h2
    obtain ⟨rfl, f1⟩ := r1.valD h1
    obtain ⟨rfl, f2⟩ := RL.valsD r2 h3
    exact ⟨rfl, by simp [f1]; simpa using f2⟩
def fInG (neg : Bool) (d c : D) : Option D := (valD d).bind fun x => (itD c).bind fun ds => (valsD ds).map fun xs => .bl (if neg then !inV x xs else inV x xs)
theorem os_in (neg : Bool) : OpS K (rIn K neg) (fInG neg) := by
  intro Hs H x y d1 d2 B1 B2 d s rx ry h
  obtain ⟨u, h1, h2⟩ := two_bind (γ := Nat) h
  obtain ⟨ds, h3, h4⟩ := two_bind (γ := Nat) h2
  obtain ⟨xs, h5, rfl⟩ := two_map h4
  obtain ⟨rfl, f1⟩ := rx.valD h1
  obtain ⟨p, ys, B', rfl, hq, h6, _⟩ := ry.items s h3
  obtain ⟨rfl, f2⟩ := h6.valsD h5
  exact ⟨.bl _, rfl, fun Q q => ⟨p, ys, rfl, hq, f1, f2, q⟩⟩
def fIn := fInG false
def fNotIn := fInG true
def fIs : D → D → Option D
  | .bl a, .bl b => some (.bl (a == b))
  | _, _ => none
def fIsN : D → D → Option D
  | .bl a, .bl b => some (.bl (!(a == b)))
  | _, _ => none
def eChain (f g : D → D → Option D) (ma mb mc : Exp) : Exp := fun env => (ma env).bind fun p => (mb p.2).bind fun q => match f p.1 q.1 with
  | some (.bl k) => if k then (if own q.1 then .no else (mc q.2).bind fun r => match g q.1 r.1 with
    | some d => .ok (d, r.2)
    | none => .no) else .ok (.bl false, q.2)
  | _ => .no
abbrev Opt := Env → Res (Option Int × Env)
def PostO (K : PySem.W.Frag) (W : Wh) (t : TO) (σ : L2.St) (F : List Addr) (Hs H : Hp) (A : List Addr) : Res (Option Int × Env) → Prop
  | .no => True
  | .ok p => ∀ Q : Option Int → Hp → Prop, (∀ Hs' H' A', ER K Hs' H' σ p.2 A' → Ok Hs' H' (F ++ A') → Go Hs H A Hs' H' A' → Q p.1 H') → t σ H Q
  | .ex x env' => ExO K W σ F Hs H A x env' → ∀ Q : Option Int → Hp → Prop, t σ H Q
def EvO (K : PySem.W.Frag) (W : Wh) (t : TO) (m : Opt) : Prop := ∀ σ env F Hs H A, ER K Hs H σ env A → Ok Hs H (F ++ A) → PostO K W t σ F Hs H A (m env)
def oN : Opt := fun env => .ok (none, env)
def oS (m : Exp) : Opt := fun env => (m env).bind fun p => match p.1 with
  | .int i => .ok (some i, p.2)
  | _ => .no
theorem eo_none : EvO K W tNoPart oN := fun σ env F Hs H A r o Q k => k Hs H A r o Go.refl
theorem eo_some (e : EvI K W t m) : EvO K W (tPart t) (oS m) := by
  intro σ env F Hs H A r o
  unfold oS
  cases h1 : m env with
  | no => trivial
  | ex x e' => exact fun k Q => e.ex r o h1 k _
  | ok p =>
    obtain ⟨d, env1⟩ := p
    simp only [Res.bind_ok]
    cases d with
    | int i => exact fun Q k => e.ok r o h1 fun v Hs1 H1 B1 A1 rv r1 o1 g1 => ⟨i, rv.int, k Hs1 H1 A1 r1 o1.un g1.un⟩
    | _ => trivial
theorem EvO.ok {t : TO} {m : Opt} {b : Option Int} (e : EvO K W t m) (r : ER K Hs H σ env A) (o : Ok Hs H (F ++ A)) (h : m env = .ok (b, env')) {Q : Option Int → Hp → Prop}
    (k : ∀ Hs' H' A', ER K Hs' H' σ env' A' → Ok Hs' H' (F ++ A') → Go Hs H A Hs' H' A' → Q b H') : t σ H Q := by
  have := e σ env F Hs H A r o
  rw [h] at this
  exact this Q k
theorem EvO.ex {t : TO} {m : Opt} (e : EvO K W t m) (r : ER K Hs H σ env A) (o : Ok Hs H (F ++ A)) {x : D} (h : m env = .ex x env') (k : ExO K W σ F Hs H A x env') (Q : Option Int → Hp → Prop) : t σ H Q := by
  have := e σ env F Hs H A r o
  rw [h] at this
  exact this k Q
def cutD (ds : List D) (lo hi : Option Int) : List D := (ds.drop (HT.sIx ds.length 0 lo)).take (HT.sIx ds.length ds.length hi - HT.sIx ds.length 0 lo)
theorem RL.drop0 : ∀ {vs : List V} {ds : List D} (n : Nat), RL K Hs H vs ds [] → RL K Hs H (vs.drop n) (ds.drop n) []
  | _, _, 0, r => r
  | [], [], n + 1, r => r
  | [], d :: ds, n + 1, r => by cases r
  | v :: vs, [], n + 1, r => by cases r
  | v :: vs, d :: ds, n + 1, r => by
    obtain ⟨B, C, e, r1, r2⟩ := RL.un r
    obtain ⟨rfl, rfl⟩ := List.append_eq_nil_iff.mp e.symm
    exact RL.drop0 n r2
theorem RL.take0 : ∀ {vs : List V} {ds : List D} (n : Nat), RL K Hs H vs ds [] → RL K Hs H (vs.take n) (ds.take n) []
  | _, _, 0, r => by simpa using RL.nil
  | [], [], n + 1, r => r
  | [], d :: ds, n + 1, r => by cases r
  | v :: vs, [], n + 1, r => by cases r
  | v :: vs, d :: ds, n + 1, r => by
    obtain ⟨B, C, e, r1, r2⟩ := RL.un r
    obtain ⟨rfl, rfl⟩ := List.append_eq_nil_iff.mp e.symm
    simpa using r1.cons (RL.take0 n r2)
theorem RL.cut {xs : List V} (r : RL K Hs H xs ds []) (lo hi : Option Int) : RL K Hs H (cutV xs lo hi) (cutD ds lo hi) [] := by
  unfold cutV cutD
  rw [r.length]
  exact (r.drop0 _).take0 _
def eSl (m : Exp) (lo hi : Opt) : Exp := fun env => (m env).bind fun p => (lo p.2).bind fun q => (hi q.2).bind fun w => match lsD (sh p.1) with
  | some ds => .ok (.lst true (cutD ds q.1 w.1), w.2)
  | none => .no
def eSlV (i : Nat) (lo hi : Opt) : Exp := fun env => if live env i then (lo env).bind fun q => (hi q.2).bind fun w => match w.2[i]? with
  | some c => (match lsD (shI c) with
    | some ds => .ok (.lst true (cutD ds q.1 w.1), w.2.set i (shI c))
    | none => .no)
  | none => .no else .no
theorem lsD_nd {c : D} {ds : List D} (h : lsD (shI c) = some ds) : isDead c = false := by cases c <;> simp [shI, lsD] at h <;> rfl
theorem ev_slV {i : Nat} {tl th : TO} {lo hi : Opt} (el : EvO K W tl lo) (eh : EvO K W th hi) : EvI K W (tSl (rSlL K) (tVar i) tl th) (eSlV i lo hi) := by
  intro σ env F Hs H A r o
  unfold eSlV
  cases hl : live env i with
  | false => trivial
  | true =>
  obtain ⟨v, hv⟩ := live_at r hl
  rw [if_pos rfl]
  cases h2 : lo env with
  | no => trivial
  | ex x e' => exact fun k Q => ⟨v, hv, el.ex r o h2 k _⟩
  | ok q =>
    obtain ⟨l, env2⟩ := q
    simp only [Res.bind_ok]
    cases h3 : hi env2 with
    | no => trivial
    | ex x e' => exact fun k Q => ⟨v, hv, el.ok r o h2 fun Hs2 H2 A2 r2 o2 g2 => eh.ex r2 o2 h3 (k.after0 g2) _⟩
    | ok w =>
      obtain ⟨u, env3⟩ := w
      simp only [Res.bind_ok]
      cases h : env3[i]? with
      | none => trivial
      | some c =>
        dsimp only
        cases h4 : lsD (shI c) with
        | none => trivial
        | some ds =>
          intro Q k
          refine ⟨v, hv, el.ok r o h2 fun Hs2 H2 A2 r2 o2 g2 => eh.ok r2 o2 h3 fun Hs3 H3 A3 r3 o3 g3 => ?_⟩
          obtain ⟨v', Hs4, B1, A1, A4, e1, q1, q2, g4, p1, p2⟩ := r3.openI o3 h (lsD_nd h4)
          rw [hv] at e1; cases e1
          obtain ⟨p, xs, rfl, q3, q4⟩ := q1.lsItems q2.sub h4
          refine ⟨p, xs, rfl, q3, new_lst (q4.cut l u) q2 fun v' Hs5 H5 B5 r5 o5 g5 => ?_⟩
          refine k v' Hs5 H5 B5 A4 r5 (p1.mono g5.hs fun a o _ h => g5.keep a o h (by simp)) (o5.less fun a => by have := p2 a; simp only [List.count_append]; omega) ?_
          have g6 : Go Hs4 H3 (B1 ++ A1) Hs5 H5 ((B1 ++ A1) ++ B5) := (g5.frame (F := B1 ++ A1)).more fun a c => by simpa using c
          exact ((g2.trans g3).trans (g4.trans g6)).less fun a c => by have := p2 a; simp only [List.count_append] at *; omega
/-- xs[::-1] -/
def gRev (c : D) : Option D := (lsD c).map fun ds => .lst true ds.reverse
def zipD (xs ys : List D) : List D := List.zipWith (fun x y => .tup [x, y]) xs ys
theorem gives_pair {Hs0 : Hp} (H0 : Hp) {J : It} {fx fy : Nat → Option V} {es : List D} {G : Hp → Prop} (hl : ∀ i d, es[i]? = some d → ∃ x y, d = .tup [x, y] ∧ ∀ u w, fx i = some u → fy i = some w → RL K Hs0 H0 [u] [x] [] ∧ RL K Hs0 H0 [w] [y] []) (wk : Walk J es.length G (YPair fx fy))
    (hG : ∀ Hs H : Hp, (∀ a o, Hs0 a = some o → Hs a = some o) → (∀ a o, Hs a = some o → H a = some o) → G H) : Gives K J es Hs0 := by
  refine ⟨G, _, wk, hG, fun i d Hs H v H' hd e s y => ?_⟩
  obtain ⟨T, x, w, rfl, hT, rfl, hx, hy⟩ := y
  obtain ⟨dx, dy, rfl, q⟩ := hl i d hd
  obtain ⟨q1, q2⟩ := q x w hx hy
  have o : Ok Hs H [] := ⟨s, fun a => by simp, fun a c => by simp at c, fun a c => by simp at c⟩
  have r1 : RL K Hs H [x, w] [dx, dy] [] := (q1.mono (H' := H) e fun a o c => by simp at c).cons (q2.mono (H' := H) e fun a o c => by simp at c)
  refine ⟨upd Hs T (.tup [x, w]), Go.newS o hT _, (o.newS hT _).sub, ?_⟩
  simpa using RL.tup (A := []) (SqT.of (upd_same)) (r1.newS o hT _) RL.nil
def iZ (ms : Arg) : Itm := fun env => (ms env).bind fun p => match p.1 with
  | [c1, c2] => (match lsD (sh c1), lsD (sh c2) with
    | some xs, some ys => .ok (zipD xs ys, p.2)
    | _, _ => .no)
  | _ => .no
theorem RL.lsShS {x : V} {ds : List D} (r : RL K Hs H [x] [sh c] B) (h : lsD (sh c) = some ds) : ∃ p xs, x = .ref p ∧ SqL K Hs p xs ∧ RL K Hs H xs ds [] := by
  cases c <;> simp [sh, lsD] at h r <;> subst h
  · cases r with
    | sc h _ => cases x <;> simp [scD] at h
    | lstS h1 h2 h3 => exact ⟨_, _, rfl, .of h1, h2⟩
  · cases r with
    | sc h _ => cases x <;> simp [scD] at h
    | frz h1 h2 h3 => exact ⟨_, _, rfl, h1, h2⟩
theorem RL.look {i : Nat} {u : V} (r : RL K Hs H vs ds []) (h : vs[i]? = some u) (hd : ds[i]? = some d) : RL K Hs H [u] [d] [] := by
  obtain ⟨w, h1, h2⟩ := r.at0 hd
  rw [h] at h1; cases h1
  exact h2
theorem zip_items {xs ys : List D} {i : Nat} (h : (zipD xs ys)[i]? = some d) : ∃ x y, d = .tup [x, y] ∧ xs[i]? = some x ∧ ys[i]? = some y := by
  unfold zipD at h
  rw [List.getElem?_zipWith] at h
  cases hx : xs[i]? <;> cases hy : ys[i]? <;> simp [hx, hy] at h
  exact ⟨_, _, h.symm, rfl, rfl⟩
theorem it_Z {ta : TA} {ms : Arg} (e : EvA K W ta ms) : ItI K W (iZip K ta) (iZ ms) := by
  intro σ env F Hs H A r o
  unfold iZ
  cases h1 : ms env with
  | no => trivial
  | ex x e' => exact fun k R => e.ex r o h1 k _
  | ok p =>
    obtain ⟨cs, env1⟩ := p
    simp only [Res.bind_ok]
    split
    · rename_i c1 c2
      split
      · rename_i xs ys hx hy
        intro R k
        refine e.ok r o h1 fun vs Hs2 H2 B2 A2 rv r2 o2 g2 => ?_
        obtain ⟨v, w, B1, B3, rfl, q1, q2⟩ := (rv.shareL o2).two
        obtain ⟨p, us, rfl, q3, q4⟩ := q1.lsShS hx
        obtain ⟨p', us', rfl, q5, q6⟩ := q2.lsShS hy
        refine ⟨p, p', us, us', rfl, ext_l o2.pool.sub q3, ext_l o2.pool.sub q5, k _ _ _ A2 ?_ (r2.pool o2) o2.pool (g2.pool o2)⟩
        refine gives_pair H2 (fun i d hd => ?_) (walk_zip (n := (zipD xs ys).length) (by simp [zipD, q4.length, q6.length])) fun Hs H e s => ⟨ext_l s (ext_l e q3), ext_l s (ext_l e q5)⟩
        obtain ⟨x, y, rfl, hx, hy⟩ := zip_items hd
        exact ⟨x, y, rfl, fun u w hu hw => ⟨q4.look hu hx, q6.look hw hy⟩⟩
      · trivial
    · trivial
def enumD (xs : List D) : List D := xs.mapIdx fun i d => .tup [.int (i : Nat), d]
def iE (ms : Arg) : Itm := fun env => (ms env).bind fun p => match p.1 with
  | [c1] => (match lsD (sh c1) with
    | some xs => .ok (enumD xs, p.2)
    | _ => .no)
  | _ => .no
theorem it_E {ta : TA} {ms : Arg} (e : EvA K W ta ms) : ItI K W (iEnum K ta) (iE ms) := by
  intro σ env F Hs H A r o
  unfold iE
  cases h1 : ms env with
  | no => trivial
  | ex x e' => exact fun k R => e.ex r o h1 k _
  | ok p =>
    obtain ⟨cs, env1⟩ := p
    simp only [Res.bind_ok]
    split
    · rename_i c1
      split
      · rename_i xs hx
        intro R k
        refine e.ok r o h1 fun vs Hs2 H2 B2 A2 rv r2 o2 g2 => ?_
        obtain ⟨v, rfl, q1⟩ := (rv.shareL o2).one
        obtain ⟨p, us, rfl, q3, q4⟩ := q1.lsShS hx
        refine ⟨p, us, rfl, ext_l o2.pool.sub q3, k _ _ _ A2 ?_ (r2.pool o2) o2.pool (g2.pool o2)⟩
        refine gives_pair H2 (fun i d hd => ?_) (show Walk (Ite K p) (enumD xs).length _ _ from by rw [show (enumD xs).length = us.length by simp [enumD, q4.length]]; exact walk_enum) fun Hs H e s => ext_l s (ext_l e q3)
        unfold enumD at hd
        rw [List.getElem?_mapIdx] at hd
        cases hx : xs[i]? with
        | none => rw [hx] at hd; cases hd
        | some x =>
          rw [hx] at hd; cases hd
          exact ⟨_, x, rfl, fun u w hu hw => ⟨by cases hu; exact .sc rfl .nil, q4.look hw hx⟩⟩
      · trivial
    · trivial
def iRv (ms : Arg) : Itm := fun env => (ms env).bind fun p => match p.1 with
  | [c1] => (match lsD (sh c1) with
    | some xs => .ok (xs.reverse, p.2)
    | _ => .no)
  | _ => .no
instance decKey (k : Key) (ks : List Key) : Decidable (k ∈ ks) := @List.instDecidableMemOfLawfulBEq _ instBEqOfDecidableEq _ k ks
def keyOf : D → Option Key
  | .int i => some (.inl i)
  | .str x => some (.inr x)
  | _ => none
def keyD : Key → D
  | .inl i => .int i
  | .inr x => .str x
theorem RL.key {k : Key} (r : RL K Hs H [v] [d] B) (h : keyOf d = some k) : v = kV k := by
  cases d <;> simp only [keyOf, reduceCtorEq, Option.some.injEq] at h <;> subst h
  · exact r.int
  · cases r with
    | sc h _ => cases v <;> simp [scD] at h; subst h; rfl
def eDict0 : Exp := fun env => .ok (.dct true [] [], env)
def valK : List Key → List D → Key → Option D
  | k :: ks, d :: ds, j => if k = j then some d else valK ks ds j
  | _, _, _ => none
def repK : List Key → List D → Key → D → List D
  | k :: ks, d :: ds, j, e => (if k = j then e else d) :: repK ks ds j e
  | _, _, _, _ => []
def putD (ks : List Key) (ds : List D) (k : Key) (d : D) : List Key × List D := if k ∈ ks then (ks, repK ks ds k d) else (ks ++ [k], ds ++ [d])
def eDGetV (i : Nat) (mk : Exp) : Exp := fun env => if live env i then (mk env).bind fun q => match q.2[i]?, keyOf q.1 with
  | some (.dct _ ks ds), some k => (match valK ks ds k with
    | some d => if own d then .no else .ok (d, q.2)
    | none => .no)
  | _, _ => .no else .no
def eDInV (neg : Bool) (mk : Exp) (i : Nat) : Exp := fun env => (mk env).bind fun q => match q.2[i]?, keyOf q.1 with
  | some (.dct _ ks _), some k => .ok (.bl (if neg then !decide (k ∈ ks) else decide (k ∈ ks)), q.2)
  | _, _ => .no
/-- d[k] = v; what is put in is shared -/
def sDPutV (i : Nat) (me mi : Exp) : Stm := fun env => match me env with
  | .no => .no
  | .ex x e => .ex x e
  | .ok p => if live p.2 i then (match mi p.2 with
    | .no => .no
    | .ex x e => .ex x e
    | .ok q => match keyOf q.1, q.2[i]? with
      | some k, some (.dct true ks ds) => if ks.length < 100000 then .nx (q.2.set i (.dct true (putD ks ds k (sh p.1)).1 (putD ks ds k (sh p.1)).2)) else .no
      | _, _ => .no) else .no
/-- list(d) -/
def gKeys : D → Option D
  | .dct _ ks _ => some (.lst true (ks.map keyD))
  | _ => none
end
end Fl
namespace Fl
open PySem PySem.Spec PyProof.Rows L2
def IO (X : Cx) (W : Wh) (e : Option Expr) (m : Opt) : Prop := ∃ t, PO X e t ∧ EvO X.K W t m
section
variable {X : Cx} {W : Wh} {P : List Nat} {a b c e tg : Expr} {es : List Expr} {ma mb mc m : Exp} {ms : Arg} {pos p : Pos} {x : Str} {bm bn : Tst} {lo hi : Option Expr} {ol oh : Opt}
theorem io_none : IO X W none oN := ⟨_, po_none, eo_none⟩
theorem io_some (h : IE X W e m) : IO X W (some e) (oS m) := let ⟨_, h1, h2⟩ := h; ⟨_, po_some h1, eo_some h2⟩
theorem ie_ty1V {T : String} {f : Str} {r : List V → Hp → VK → Prop} {g : D → Option D} {py : Pos} (i : Nat) (hc : CallR X (.type T) r) (cg : CaG X.K r g) (hb : bootBuiltins f = some (.type T)) (hm : X.mg f = none) (hg : Gl X f := by rfl)
    (hN : X.N[i]? = some x := by rfl) (hv : Vis X.env.scope x := by first | exact Or.inl rfl | exact Or.inr (Or.inl rfl) | exact Or.inr (Or.inr rfl)) (hd : (x == ("__debug__" : Str)) = false := by decide) (hcd : (x == ("__classdict__" : Str)) = false := by decide)
    (hnn : f ≠ "__name__" := by decide) (hdb : (f == ("__debug__" : Str)) = false := by decide) (he : starEach (.Name x py :: []) X.env = (false, eval (.Name x py) X.env) :: starEach [] X.env := by rfl) (hpl : (backTo pos (starEach [] X.env)).any (·.1) = false := by rfl) :
    IE X W (.Call (.Name f p) [.Name x py] [] pos) (eG1V g i) := ⟨_, pe_callTy hc hg hm hb (pa_cons (pe_var hN hv hd hcd) pa_nil he) hnn hdb he hpl, ev_g1V cg⟩
theorem ie_fn1 {T : String} {f : Str} {r : List V → Hp → VK → Prop} {g : D → Option D} (hc : CallR X (.builtin T) r) (cg : CaG X.K r g) (hb : bootBuiltins f = some (.builtin T)) (hm : X.mg f = none) (ha : IE X W a m) (hg : Gl X f := by rfl)
    (hnn : f ≠ "__name__" := by decide) (hdb : (f == ("__debug__" : Str)) = false := by decide) (he : starEach (a :: []) X.env = (false, eval a X.env) :: starEach [] X.env := by rfl) (hpl : (backTo pos (starEach [] X.env)).any (·.1) = false := by rfl) :
    IE X W (.Call (.Name f p) [a] [] pos) (eG1 g m) := let ⟨_, h1, h2⟩ := ha; ⟨_, pe_callB hc hg hm hb (pa_cons h1 pa_nil he) hnn hdb he hpl, ev_g1 cg h2⟩
theorem ie_fn1V {T : String} {f : Str} {r : List V → Hp → VK → Prop} {g : D → Option D} {py : Pos} (i : Nat) (hc : CallR X (.builtin T) r) (cg : CaG X.K r g) (hb : bootBuiltins f = some (.builtin T)) (hm : X.mg f = none) (hg : Gl X f := by rfl)
    (hN : X.N[i]? = some x := by rfl) (hv : Vis X.env.scope x := by first | exact Or.inl rfl | exact Or.inr (Or.inl rfl) | exact Or.inr (Or.inr rfl)) (hd : (x == ("__debug__" : Str)) = false := by decide) (hcd : (x == ("__classdict__" : Str)) = false := by decide)
    (hnn : f ≠ "__name__" := by decide) (hdb : (f == ("__debug__" : Str)) = false := by decide) (he : starEach (.Name x py :: []) X.env = (false, eval (.Name x py) X.env) :: starEach [] X.env := by rfl) (hpl : (backTo pos (starEach [] X.env)).any (·.1) = false := by rfl) :
    IE X W (.Call (.Name f p) [.Name x py] [] pos) (eG1V g i) := ⟨_, pe_callB hc hg hm hb (pa_cons (pe_var hN hv hd hcd) pa_nil he) hnn hdb he hpl, ev_g1V cg⟩
theorem ib_cmp {op : CmpOp} {r : R2} {f : D → D → Option D} (ho : OpR X (compareOp op) r) (os : OpS X.K r f) (ha : IE X W a ma) (hb : IE X W b mb) (hm : behindInMarks op b = false := by first | exact nobehind _ (by decide) (by decide) | rfl) : IB X W (.Compare a [op] [b] pos) (bOf (eBin f ma mb)) :=
  let ⟨_, h1, h2⟩ := ha; let ⟨_, h3, h4⟩ := hb; ⟨_, pt_cmpR ho h1 h3 hm, eb_test (ev_bin os h2 h4)⟩
theorem ie_cmpV {op : CmpOp} {r : R2} {f : D → D → Option D} {py : Pos} (i : Nat) (ho : OpR X (compareOp op) r) (os : OpS X.K r f) (ha : IE X W a ma) (hm : behindInMarks op (.Name x py) = false := by first | exact nobehind _ (by decide) (by decide) | rfl)
    (hN : X.N[i]? = some x := by rfl) (hv : Vis X.env.scope x := by first | exact Or.inl rfl | exact Or.inr (Or.inl rfl) | exact Or.inr (Or.inr rfl)) (hd : (x == ("__debug__" : Str)) = false := by decide) (hcd : (x == ("__classdict__" : Str)) = false := by decide) :
    IE X W (.Compare a [op] [.Name x py] pos) (eBinV f ma i) := let ⟨_, h1, h2⟩ := ha; ⟨_, pe_cmpR ho h1 (pe_var hN hv hd hcd) hm, ev_binV os h2⟩
theorem ib_cmpV {op : CmpOp} {r : R2} {f : D → D → Option D} {py : Pos} (i : Nat) (ho : OpR X (compareOp op) r) (os : OpS X.K r f) (ha : IE X W a ma) (hm : behindInMarks op (.Name x py) = false := by first | exact nobehind _ (by decide) (by decide) | rfl)
    (hN : X.N[i]? = some x := by rfl) (hv : Vis X.env.scope x := by first | exact Or.inl rfl | exact Or.inr (Or.inl rfl) | exact Or.inr (Or.inr rfl)) (hd : (x == ("__debug__" : Str)) = false := by decide) (hcd : (x == ("__classdict__" : Str)) = false := by decide) :
    IB X W (.Compare a [op] [.Name x py] pos) (bOf (eBinV f ma i)) := let ⟨_, h1, h2⟩ := ha; ⟨_, pt_cmpR ho h1 (pe_var hN hv hd hcd) hm, eb_test (ev_binV os h2)⟩
theorem ib_cmpL {op : CmpOp} {r : R2} {f : D → D → Option D} {py : Pos} (i : Nat) (ho : OpR X (compareOp op) r) (os : OpS X.K r f) (hb : IE X W b mb) (hm : behindInMarks op b = false := by first | exact nobehind _ (by decide) (by decide) | rfl)
    (hN : X.N[i]? = some x := by rfl) (hv : Vis X.env.scope x := by first | exact Or.inl rfl | exact Or.inr (Or.inl rfl) | exact Or.inr (Or.inr rfl)) (hd : (x == ("__debug__" : Str)) = false := by decide) (hcd : (x == ("__classdict__" : Str)) = false := by decide) :
    IB X W (.Compare (.Name x py) [op] [b] pos) (bOf (eBinL f i mb)) := let ⟨_, h1, h2⟩ := hb; ⟨_, pt_cmpR ho (pe_var hN hv hd hcd) h1 hm, eb_test (ev_binL os h2)⟩
theorem ie_slV {p2 py : Pos} (i : Nat) (hl : IO X W lo ol) (hh : IO X W hi oh) (hN : X.N[i]? = some x := by rfl) (hv : Vis X.env.scope x := by first | exact Or.inl rfl | exact Or.inr (Or.inl rfl) | exact Or.inr (Or.inr rfl)) (hd : (x == ("__debug__" : Str)) = false := by decide) (hcd : (x == ("__classdict__" : Str)) = false := by decide) :
    IE X W (.Subscript (.Name x py) (.Slice lo hi none p2) pos) (eSlV i ol oh) := let ⟨_, h3, h4⟩ := hl; let ⟨_, h5, h6⟩ := hh; ⟨_, pe_slice sl_list (pe_var hN hv hd hcd) h3 h5, ev_slV h4 h6⟩
theorem ii_Z {tpos : Pos} {elts : List Expr} {kk : Nat} (hm : X.mg "zip" = none) (ha : IA X W [a, b] ms) (hg : Gl X "zip" := by rfl) (hs : starEach [a, b] X.env = (false, eval a X.env) :: starEach [b] X.env := by rfl) (hpl : (backTo pos (starEach [b] X.env)).any (·.1) = false := by rfl) :
    II X W (.Tuple elts kk tpos) (.Call (.Name "zip" p) [a, b] [] pos) (iZ ms) := let ⟨_, h1, h2⟩ := ha; ⟨_, pi_zip hg hm h1 hs hpl, it_Z h2⟩
theorem ii_E {tpos : Pos} {elts : List Expr} {kk : Nat} (hm : X.mg "enumerate" = none) (ha : IA X W [a] ms) (hg : Gl X "enumerate" := by rfl) (hs : starEach [a] X.env = [(false, eval a X.env)] := by rfl) :
    II X W (.Tuple elts kk tpos) (.Call (.Name "enumerate" p) [a] [] pos) (iE ms) := let ⟨_, h1, h2⟩ := ha; ⟨_, pi_enum hg hm h1 hs, it_E h2⟩
end
section
variable {env : Env} {d : D} {i : Nat} {m ma mb mc : Exp} {f g : D → D → Option D} {h : D → Option D} {lo hi : Opt} {ms : Arg} {ds : List D}
@[simp] theorem eG1_app : eG1 h m env = (m env).bind fun p => match h (shI p.1) with | some d => .ok (d, p.2) | none => .no := rfl
@[simp] theorem eG1V_app : eG1V h i env = (match env[i]? with | some c => if isDead c then .no else (match h (shI c) with | some d => .ok (d, env.set i (shI c)) | none => .no) | none => .no) := rfl
@[simp] theorem eBinV_app : eBinV f ma i env = (ma env).bind fun p => match p.2[i]? with | some c => if isDead c then .no else (match f p.1 c with | some d => .ok (d, p.2) | none => .no) | none => .no := rfl
@[simp] theorem eBinL_app : eBinL f i mb env = if live env i then (mb env).bind fun q => (match q.2[i]? with | some c => if isDead c then .no else (match f c q.1 with | some d => .ok (d, q.2) | none => .no) | none => .no) else .no := rfl
@[simp] theorem eChain_app : eChain f g ma mb mc env = (ma env).bind fun p => (mb p.2).bind fun q => match f p.1 q.1 with
  | some (.bl k) => if k then (if own q.1 then .no else (mc q.2).bind fun r => match g q.1 r.1 with
    | some d => .ok (d, r.2)
    | none => .no) else .ok (.bl false, q.2)
  | _ => .no := rfl
@[simp] theorem oN_app : oN env = .ok (none, env) := rfl
@[simp] theorem oS_app : oS m env = (m env).bind fun p => match p.1 with | .int i => .ok (some i, p.2) | _ => .no := rfl
@[simp] theorem eSl_app : eSl m lo hi env = (m env).bind fun p => (lo p.2).bind fun q => (hi q.2).bind fun w => match lsD (sh p.1) with | some ds => .ok (.lst true (cutD ds q.1 w.1), w.2) | none => .no := rfl
@[simp] theorem eSlV_app : eSlV i lo hi env = if live env i then (lo env).bind fun q => (hi q.2).bind fun w => (match w.2[i]? with
  | some c => (match lsD (shI c) with | some ds => .ok (.lst true (cutD ds q.1 w.1), w.2.set i (shI c)) | none => .no)
  | none => .no) else .no := rfl
@[simp] theorem iZ_app : iZ ms env = (ms env).bind fun p => match p.1 with | [c1, c2] => (match lsD (sh c1), lsD (sh c2) with | some xs, some ys => .ok (zipD xs ys, p.2) | _, _ => .no) | _ => .no := rfl
@[simp] theorem iE_app : iE ms env = (ms env).bind fun p => match p.1 with | [c1] => (match lsD (sh c1) with | some xs => .ok (enumD xs, p.2) | _ => .no) | _ => .no := rfl
@[simp] theorem iRv_app : iRv ms env = (ms env).bind fun p => match p.1 with | [c1] => (match lsD (sh c1) with | some xs => .ok (xs.reverse, p.2) | _ => .no) | _ => .no := rfl
@[simp] theorem eDict0_app : eDict0 env = .ok (.dct true [] [], env) := rfl
@[simp] theorem eDGetV_app : eDGetV i mb env = if live env i then (mb env).bind fun q => (match q.2[i]?, keyOf q.1 with
  | some (.dct _ ks ds), some k => (match valK ks ds k with | some d => if own d then .no else .ok (d, q.2) | none => .no)
  | _, _ => .no) else .no := rfl
@[simp] theorem eDInV_app {neg : Bool} : eDInV neg mb i env = (mb env).bind fun q => match q.2[i]?, keyOf q.1 with
  | some (.dct _ ks _), some k => .ok (.bl (if neg then !decide (k ∈ ks) else decide (k ∈ ks)), q.2)
  | _, _ => .no := rfl
@[simp] theorem sDPutV_app {ma mb : Exp} : sDPutV i ma mb env = (match ma env with
  | .no => .no
  | .ex x e => .ex x e
  | .ok p => if live p.2 i then (match mb p.2 with
    | .no => .no
    | .ex x e => .ex x e
    | .ok q => match keyOf q.1, q.2[i]? with
      | some k, some (.dct true ks ds) => if ks.length < 100000 then .nx (q.2.set i (.dct true (putD ks ds k (sh p.1)).1 (putD ks ds k (sh p.1)).2)) else .no
      | _, _ => .no) else .no) := rfl
@[simp] theorem shI_lst {o : Bool} : shI (.lst o ds) = .lst o (shL ds) := rfl
@[simp] theorem shI_tup : shI (.tup ds) = .tup (shL ds) := rfl
@[simp] theorem shI_frz : shI (.frz ds) = .frz (shL ds) := rfl
@[simp] theorem shI_dct {o : Bool} {ks : List L2.Key} : shI (.dct o ks ds) = .dct o ks (shL ds) := rfl
@[simp] theorem shI_int {a : Int} : shI (.int a) = .int a := rfl
@[simp] theorem shI_bl {a : Bool} : shI (.bl a) = .bl a := rfl
@[simp] theorem shI_non : shI .non = .non := rfl
@[simp] theorem shI_str {a : Str} : shI (.str a) = .str a := rfl
@[simp] theorem lsD_lst {o : Bool} : lsD (.lst o ds) = some ds := rfl
@[simp] theorem lsD_frz : lsD (.frz ds) = some ds := rfl
@[simp] theorem itD_lst {o : Bool} : itD (.lst o ds) = some ds := rfl
@[simp] theorem itD_frz : itD (.frz ds) = some ds := rfl
@[simp] theorem itD_tup : itD (.tup ds) = some ds := rfl
@[simp] theorem gList_lst {o : Bool} : gList (.lst o ds) = some (.lst true ds) := rfl
@[simp] theorem gList_tup : gList (.tup ds) = some (.lst true ds) := rfl
@[simp] theorem gTuple_lst {o : Bool} : gTuple (.lst o ds) = some (.tup ds) := rfl
@[simp] theorem gTuple_tup : gTuple (.tup ds) = some (.tup ds) := rfl
@[simp] theorem gRev_lst {o : Bool} : gRev (.lst o ds) = some (.lst true ds.reverse) := rfl
@[simp] theorem gKeys_dct {o : Bool} {ks : List L2.Key} : gKeys (.dct o ks ds) = some (.lst true (ks.map keyD)) := rfl
@[simp] theorem fIs_bl {a b : Bool} : fIs (.bl a) (.bl b) = some (.bl (a == b)) := rfl
@[simp] theorem fIsN_bl {a b : Bool} : fIsN (.bl a) (.bl b) = some (.bl (!(a == b))) := rfl
@[simp] theorem keyOf_int {a : Int} : keyOf (.int a) = some (.inl a) := rfl
@[simp] theorem keyOf_str {a : Str} : keyOf (.str a) = some (.inr a) := rfl
end
end Fl
namespace Fl
open PySem PySem.Spec PyProof.Rows L2
section
variable {K : PySem.W.Frag} {W : Wh} {σ : L2.St} {env env' : Env} {F A A' B C : List Addr} {Hs H Hs' H' : Hp}
def eCallD (m : Fn) (dds : List D) (ms : Arg) : Exp := fun env => (ms env).bind fun p => match m (p.1 ++ dds) with
  | .ok q => .ok (q.1, p.2)
  | _ => .no
end
@[simp] theorem eCallD_app {m : Fn} {dds : List D} {ms : Arg} {env : Env} : eCallD m dds ms env = (ms env).bind fun p => match m (p.1 ++ dds) with | .ok q => .ok (q.1, p.2) | _ => .no := rfl
end Fl
namespace Fl
open PySem PySem.Spec PyProof.Rows L2
section
variable {K : PySem.W.Frag} {W : Wh} {σ : L2.St} {env env' : Env} {F A A' B C : List Addr} {Hs H Hs' H' : Hp} {t ta tb : TE} {m ma mb : Exp} {c d d1 d2 : D} {v : V} {vs : List V} {ds : List D}
mutual
def clean : D → Bool
  | .non => true
  | .bl _ => true
  | .int _ => true
  | .str _ => true
  | .tup ds => cleanL ds
  | .lst o ds => o && cleanL ds
  | .dct o _ ds => o && cleanL ds
  | .obj o _ _ ds => o && cleanL ds
  | _ => false
def cleanL : List D → Bool
  | [] => true
  | d :: ds => clean d && cleanL ds
end
theorem RL.unshare (r : RL K Hs H vs ds A) : cleanL ds = true → (∀ a xs, Rd Hs a (.tup xs) → Hs' a = Hs a) → RL K Hs' H vs ds A := by
  induction r with
  | nil => intro _ _; exact .nil
  | @sc v d vs ds B h _ ih =>
    intro e k
    simp only [cleanL, Bool.and_eq_true] at e
    exact .sc h (ih e.2 k)
  | tup h _ _ i1 i2 =>
    intro e k
    simp only [cleanL, clean, Bool.and_eq_true] at e
    refine .tup ?_ (i1 e.1 k) (i2 e.2 k)
    rcases h with h | h
    · left
      have := k _ _ h
      rcases h with h | ⟨o, h⟩
      · exact .inl (this.trans h)
      · exact .inr ⟨o, this.trans h⟩
    · exact .inr h
  | frz _ _ _ _ _ => intro e; simp [cleanL, clean] at e
  | lstS _ _ _ _ _ => intro e; simp [cleanL, clean] at e
  | dctS _ _ _ _ _ _ => intro e; simp [cleanL, clean] at e
  | objS _ _ _ _ _ _ _ => intro e; simp [cleanL, clean] at e
  | obj hc h hk _ _ i1 i2 =>
    intro e k
    simp only [cleanL, clean, Bool.true_and, Bool.and_eq_true] at e
    exact .obj hc h hk (i1 e.1 k) (i2 e.2 k)
  | exo _ _ _ => intro e; simp [cleanL, clean] at e
  | lstO h _ _ i1 i2 =>
    intro e k
    simp only [cleanL, clean, Bool.true_and, Bool.and_eq_true] at e
    exact .lstO h (i1 e.1 k) (i2 e.2 k)
  | dct h hk _ _ i1 i2 =>
    intro e k
    simp only [cleanL, clean, Bool.true_and, Bool.and_eq_true] at e
    exact .dct h hk (i1 e.1 k) (i2 e.2 k)
  | dead _ _ => intro e; simp [cleanL, clean] at e
inductive BA where
  | v (i : Nat)
  | e (m : Exp)
abbrev BP := List (Sum D Nat)
def argB : List BA → Env → Option (BP × Env)
  | [], env => some ([], env)
  | .v i :: bs, env => if live env i then (match argB bs env with
    | some p => some (.inr i :: p.1, p.2)
    | none => none) else none
  | .e m :: bs, env => match m env with
    | .ok p => (match argB bs p.2 with
      | some q => some (.inl p.1 :: q.1, q.2)
      | none => none)
    | _ => none
def fillB (env : Env) : BP → Option (List D)
  | [] => some []
  | .inl d :: ps => (match fillB env ps with
    | some ds => some (d :: ds)
    | none => none)
  | .inr i :: ps => (match env[i]?, fillB env ps with
    | some c, some ds => if isDead c then none else some (sh c :: ds)
    | _, _ => none)
inductive AB (K : PySem.W.Frag) (σ : L2.St) (Hs H : Hp) : List V → BP → List Addr → Prop
  | nil : AB K σ Hs H [] [] []
  | d {v d vs ps B C} : RL K Hs H [v] [d] B → AB K σ Hs H vs ps C → AB K σ Hs H (v :: vs) (.inl d :: ps) (B ++ C)
  | v {v i vs ps C} : σ[i]? = some (some v) → AB K σ Hs H vs ps C → AB K σ Hs H (v :: vs) (.inr i :: ps) C
theorem AB.mono {ps : BP} (r : AB K σ Hs H vs ps A) (e : ∀ a o, Hs a = some o → Hs' a = some o) (k : ∀ a o, 0 < A.count a → H a = some o → H' a = some o) : AB K σ Hs' H' vs ps A := by
  induction r with
  | nil => exact .nil
  | d h _ ih => exact .d (h.mono e fun a o c => k a o (by rw [List.count_append]; omega)) (ih fun a o c => k a o (by rw [List.count_append]; omega))
  | v h _ ih => exact .v h (ih k)
theorem AB.length {ps : BP} (r : AB K σ Hs H vs ps A) : vs.length = ps.length := by
  induction r <;> simp_all
/-- f(..): the names among the arguments lent where what is told is clean; else they are shared -/
def eCallB (f : Fn) (bs : List BA) (ms : Arg) : Exp := fun env => match argB bs env with
  | some p => (match fillB p.2 p.1 with
    | some ds => (match f ds with
      | .ok q => if clean q.1 then .ok (q.1, p.2) else eCall f ms env
      | _ => eCall f ms env)
    | none => eCall f ms env)
  | none => eCall f ms env
end
section
variable {env : Env} {d : D} {i : Nat} {m : Exp} {ms : Arg} {f : Fn} {bs : List BA} {ps : BP} {ds : List D}
@[simp] theorem eCallB_app : eCallB f bs ms env = (match argB bs env with
  | some p => (match fillB p.2 p.1 with
    | some ds => (match f ds with
      | .ok q => if clean q.1 then .ok (q.1, p.2) else eCall f ms env
      | _ => eCall f ms env)
    | none => eCall f ms env)
  | none => eCall f ms env) := rfl
@[simp] theorem argB_nil : argB [] env = some ([], env) := rfl
@[simp] theorem argB_v : argB (.v i :: bs) env = if live env i then (match argB bs env with | some p => some (.inr i :: p.1, p.2) | none => none) else none := rfl
@[simp] theorem argB_e : argB (.e m :: bs) env = (match m env with | .ok p => (match argB bs p.2 with | some q => some (.inl p.1 :: q.1, q.2) | none => none) | _ => none) := rfl
@[simp] theorem fillB_nil : fillB env [] = some [] := rfl
@[simp] theorem fillB_l : fillB env (.inl d :: ps) = (match fillB env ps with | some ds => some (d :: ds) | none => none) := rfl
@[simp] theorem fillB_r : fillB env (.inr i :: ps) = (match env[i]?, fillB env ps with | some c, some ds => if isDead c then none else some (sh c :: ds) | _, _ => none) := rfl
@[simp] theorem clean_int {a : Int} : clean (.int a) = true := rfl
@[simp] theorem clean_bl {a : Bool} : clean (.bl a) = true := rfl
@[simp] theorem clean_non : clean .non = true := rfl
@[simp] theorem clean_str {a : Str} : clean (.str a) = true := rfl
@[simp] theorem clean_tup : clean (.tup ds) = cleanL ds := rfl
@[simp] theorem clean_lst {o : Bool} : clean (.lst o ds) = (o && cleanL ds) := rfl
@[simp] theorem clean_dct {o : Bool} {ks : List Key} : clean (.dct o ks ds) = (o && cleanL ds) := rfl
@[simp] theorem clean_frz : clean (.frz ds) = false := rfl
@[simp] theorem clean_exo {c : Str} : clean (.exo c ds) = false := rfl
@[simp] theorem clean_dead : clean .dead = false := rfl
@[simp] theorem cleanL_nil : cleanL [] = true := rfl
@[simp] theorem cleanL_cons : cleanL (d :: ds) = (clean d && cleanL ds) := rfl
end
end Fl
namespace Fl
open PySem PySem.Spec PyProof.Rows L2
/-- a promise of one call alone: at the surroundings A -/
def RunAt (P : Program) (w : World) (K : PySem.W.Frag) (mg : Str → Option Value) (base : Heap) (A : Around) (f : Addr) (fd : FuncData) (ps : List Str) (sp : Sp) : Prop :=
  ∀ (outer : List PySem.Env) (s : Shared) (H : Hp) (args : Args) (us : List Value) (vs : List V) (Q : VK) (E : XK), Env0 P w K mg base A outer s H → BindsTo s fd args (ps.zip us) → Vals vs us → sp vs H Q E →
    codeAny (model P w) A (.call (.ref f) args) (CR CX0 outer P w H s Q E) s
section
variable {P : Program} {w : World} {K : PySem.W.Frag} {mg mb : Str → Option Value} {base : Heap}
theorem run_def {x qual : Str} {st : Stmt} {f : Addr} {fd : FuncData} {N ps : List Str} {k n : Nat} {A : Around} {m : Stm} (F : Fun K x qual st f fd) (S : FnScope N ps (defScope st)) (hn : ps.length = n) (h0 : 0 < n) (hr : Room (k + 1) A)
    (body : ∀ (cdv : Value) (outer : List PySem.Env) (s : Shared) (H : Hp) (E : XK), Room k (A.deeper (envOfC qual (defScope st) s.heap.objs.size f cdv)) →
      ISs (cxOf CX0 P w K mg base N qual (defScope st) f cdv A outer s H E).nox W0 [] (defBody st) m) :
    RunAt P w K mg base A f fd ps (spI K n (fnM n N.length false m)) := by
  obtain ⟨oc, od, kV, doc, pm, an, cdv, ct, osl, rfl, lk, hcd⟩ := F.ex
  intro outer s H args us vs Q E e0 hb rv hsp
  have hlen : vs.length = ps.length := hn ▸ hsp.1
  have inH : ∀ b o, base.get? b = some o → s.heap.get? b = some o := fun b o q => (e0.bs b o q).1
  have hK : K.In s.heap := e0.mod.kin.keeps inH
  -- each parameter is a local or a cell
  have kinds : ∀ y ∈ ps.zip us, (defScope st).names.lookup y.1 = some .local ∨ ((defScope st).names.lookup y.1 = some .cell ∧ ((cellsFrom (s.heap.objs.size + 1) (defScope st).names []).lookup y.1).isSome = true) := by
    rintro ⟨y, v⟩ hy
    exact (S.par y (List.of_mem_zip hy).1).imp id fun q => ⟨q, PySem.W.cellsFrom_some _ _ _ (.inl q)⟩
  obtain ⟨t, h1, h2⟩ := body cdv outer s H E (hr.deeper _)
  have h3 := fn_end (io := false) (N := N) rfl h0 h2 hsp
  refine codeAny_call_function hr.depth (hK _ _ lk) rfl S.co S.gen rfl (PySem.W.codeRec_of hK hcd) (hb _ _ _ _ ?_)
  refine wpAny_newFunctionEnv_cells S.kind kinds fun env he s1 x => ?_
  subst he
  refine ⟨(e0.mod.nolimit.keeps inH).keeps x.toInCall.keep, codeAny_func (wpAny_mono (h1.nox.run [] s1 (start N vs) H _ (inv_start S hr.hd e0 hlen rv x) h3) (fun fl s' hs => ?_) fun _ _ hs => hs)⟩
  cases fl with
  | brk => obtain ⟨_, _, _, q⟩ := hs; exact q.elim
  | cont => obtain ⟨_, _, _, q⟩ := hs; exact q.elim
  | ret u => obtain ⟨v, σ', H', J, r, q⟩ := hs; exact ⟨v, H', J.os, J.bare, J.base, J.hok, r, q⟩
  | next => obtain ⟨σ', H', J, q⟩ := hs; exact ⟨.non, H', J.os, J.bare, J.base, J.hok, rfl, q⟩
/-- the heap in which nothing but the script is looked at -/
def scriptHp (K : PySem.W.Frag) (a : Addr) (vs : List Value) (ns : List Int) : Hp := fun b => if b = a ∧ K.lookup a = none then some (.frz { cls := .type "list", data := .seq vs.toArray } (.lst (ns.map V.int))) else none
theorem run_law {fa a : Addr} {fd : FuncData} {x : Str} {sp : Sp} {s₁ : Shared} {vs : List Value} {ns : List Int}
    (KX : K.In s₁.heap) (hns : s₁.heap.Ns mainGlobals mg) (hb : s₁.heap.Ns builtinsNs mb) (hbb : ∀ x : Str, x ≠ "__name__" → mb x = bootBuiltins x) (hlim : s₁.heap.NoLimit) (hseer : s₁.heap.NoSeer) (hg : s₁.gens = #[])
    (ha : s₁.heap.get? a = some { cls := .type "list", data := .seq vs.toArray }) (hi : IntsAre vs ns) (hl : ns.length ≤ sizeLine)
    (F : ∀ base : Heap, K.In base → base.Ns mainGlobals mg → base.NoSeer → RunAt P w K mg base callerA fa fd [x] sp) (hbind : ∀ (s : Shared) (u : Value), BindsTo s fd ⟨[u], []⟩ [(x, u)])
    (hsp : ∀ H : Hp, SqL K H a (ns.map V.int) → sp [.ref a] H (fun v _ => v = .bl true) fun _ _ _ => False) :
    codeAny (model P w) callerA (.call (.ref fa) ⟨[.ref a], []⟩) (fun r s' => r = .ok (.ret (.bool true)) ∧ OldK s₁.heap s'.heap ∧ s'.os = s₁.os ∧ AllBare s'.gens) s₁ := by
  generalize hH : scriptHp K a vs ns = H
  have only : ∀ b, H b ≠ none → b = a ∧ K.lookup a = none ∧ H b = some (.frz { cls := .type "list", data := .seq vs.toArray } (.lst (ns.map V.int))) := fun b h => by
    subst hH
    unfold scriptHp at h ⊢
    by_cases c : b = a ∧ K.lookup a = none
    · exact ⟨c.1, c.2, if_pos c⟩
    · rw [if_neg c] at h; exact absurd rfl h
  have out : ∀ b, H b = none ∨ (b = a ∧ K.lookup a = none ∧ H b = some (.frz { cls := .type "list", data := .seq vs.toArray } (.lst (ns.map V.int)))) := fun b => by
    by_cases c : H b = none
    · exact .inl c
    · exact .inr (only b c)
  have seq : SqL K H a (ns.map V.int) := by
    cases hk : K.lookup a with
    | none => exact .inl (.inr ⟨_, by subst hH; exact if_pos ⟨rfl, hk⟩⟩)
    | some o =>
      have e := KX a o hk
      rw [ha] at e
      cases e
      exact .inr ⟨_, vs.toArray, _, hk, rfl, rfl, rfl, by rw [List.size_toArray, hi.length]; exact hl, by simpa using vals_ints hi⟩
  have ok : HOk P w H s₁.heap := fun b u z => by
    rcases out b with q | ⟨rfl, _, q⟩
    · rw [q] at z; cases z
    · rw [q] at z; cases z
      exact ⟨ha, by rw [List.length_map]; exact hl, vs, _, vals_ints hi, ha⟩
  have stay : ∀ {b : Addr} {o : Obj}, s₁.heap.get? b = some o → (∀ ys n, o.data ≠ .seq ys n) → (hidT s₁.heap H).get? b = some o := fun {b o} e d => by
    rcases out b with q | ⟨rfl, _, _⟩
    · exact hidT_get e q
    · rw [ha] at e; cases e; exact absurd rfl (d _ _)
  have ns_ : ∀ {b : Addr} {m : Str → Option Value}, s₁.heap.Ns b m → (hidT s₁.heap H).Ns b m := fun {b m} ⟨o, es, ep, e, d, r⟩ => ⟨o, es, ep, stay e fun ys n z => (by rw [d] at z; cases z), d, r⟩
  have hKb : K.In (hidT s₁.heap H) := fun b o e => by
    rcases out b with q | ⟨rfl, k, _⟩
    · exact hidT_get (KX b o e) q
    · rw [k] at e; cases e
  have e0 : Env0 P w K mg (hidT s₁.heap H) callerA [] s₁ H := ⟨rfl, ⟨hKb, ns_ hns, ⟨mb, ns_ hb, hbb⟩, let ⟨mc, h1, h2⟩ := hlim; ⟨mc, ns_ h1, h2⟩⟩, fun b o e => of_hidT e, Nat.le_of_eq (hidT_size _ _), trivial, fun b hb => (by cases hb), ok, .of_eq hg⟩
  have hsr : (hidT s₁.heap H).NoSeer := ⟨let ⟨mc, h1, h2⟩ := hseer.statics; ⟨mc, ns_ h1, h2⟩, let ⟨mc, h1, h2⟩ := hseer.mods; ⟨mc, ns_ h1, h2⟩, let ⟨mc, h1, h2⟩ := hseer.imp; ⟨mc, ns_ h1, h2⟩, by
    obtain ⟨mg2, bm, ob, h1, h2, h3, h4, h5⟩ := hseer.main
    refine ⟨mg2, bm, ob, ns_ h1, h2, ?_, h4, h5⟩
    rcases out bm with q | ⟨rfl, _, _⟩
    · exact hidT_get h3 q
    · rw [ha] at h3; cases h3; exact absurd h4 (by simp)⟩
  refine codeAny_mono (F _ hKb (ns_ hns) hsr [] s₁ H ⟨[.ref a], []⟩ [.ref a] [.ref a] _ _ e0 (hbind s₁ (.ref a)) (.cons rfl .nil) (hsp H seq)) fun r s' h => ?_
  match r, h with
  | .ok (.ret u), ⟨v, H', os, bare, un, hok', rv, q⟩ =>
    have q' : v = .bl true := q
    subst q'
    obtain rfl : u = Value.bool true := rv
    refine ⟨rfl, OldK.of_keep fun b o e => ?_, os, bare⟩
    rcases out b with z | ⟨rfl, _, z⟩
    · exact un.keep b o e z (by intro y; cases y) (by simp)
    · obtain ⟨e1, _⟩ := ok b _ z
      obtain ⟨e2, _⟩ := hok' b _ (un.frzs b _ _ z)
      rw [e] at e1; cases e1
      exact e2
  | .ok .next, h => exact h.elim
  | .ok .brk, h => exact h.elim
  | .ok .cont, h => exact h.elim
  | .error e, h => exact h.elim
end
theorem walk_at {l : PySem.W.OpenLaw} {n : Nat} {q : Program} {loose : List Str} {XP : (Str → Option Value) → Heap → Prop} {YP : World → Heap → Prop} {d : DefRec} {K : Params → PySem.W.Frag} {sp : World → Sp} {x : Str}
    (hn : l.most = some n) (hn2 : n ≤ sizeLine) (hdf : d.params.defaults = []) (hin : importsNone q = true)
    (hY : ∀ (w : World) (h : Heap), YP w h → (K w.params).In h)
    (F : ∀ (w : World) (mg : Str → Option Value) (fa : Addr) (h : Heap), (K w.params).In h → h.Ns mainGlobals mg → mg d.name = some (.ref fa) →
      ∃ fd : FuncData, (∀ (s : Shared) (u : Value), BindsTo s fd ⟨[u], []⟩ [(x, u)]) ∧
        ∀ base : Heap, (K w.params).In base → base.Ns mainGlobals mg → base.NoSeer → RunAt l.prog w (K w.params) mg base callerA fa fd [x] (sp w))
    (hsp : ∀ (w : World) (H : Hp) (a : Addr) (ns : List Int), ns.length ≤ n → SqL (K w.params) H a (ns.map V.int) → sp w [.ref a] H (fun v _ => v = .bl true) fun _ _ _ => False) :
    PySem.W.WalkO q loose XP YP l.row.toRowW d [] (fun f vs => PySem.call f vs) := by
  refine Att.attach_call hn hdf fun w s₀ s₁ mg mb fa o pm cd doc a vs ns G Y ho hd hcd hmg hobj hints hlen hg => ?_
  obtain ⟨fd, hb, hF⟩ := F w mg fa _ (hY w _ Y) G.T.g hmg
  exact run_law (hY w _ Y) G.T.g G.T.b G.T.builtins G.T.nolimit (G.T.seer hin) hg hobj hints (Nat.le_trans hlen hn2) hF hb fun H hS => hsp w H a ns hlen hS
end Fl
namespace Fl
open PySem PySem.Spec PyProof.Rows L2
end Fl
namespace Fl
open PySem PySem.Spec PyProof.Rows L2
mutual
def pl : D → Nat → Bool
  | .non, _ => true
  | .bl _, _ => true
  | .int _, _ => true
  | .str x, _ => PyData.canLay0 (.str x)
  | .tup ds, n + 1 => plL ds n
  | .lst _ ds, n + 1 => plL ds n
  | .frz ds, n + 1 => plL ds n
  | _, _ => false
def plL : List D → Nat → Bool
  | [], _ => true
  | d :: ds, n => pl d n && plL ds n
end
theorem eqD_of {a b : D} {p q : PyData} (h1 : toPy a = some p) (h2 : toPy b = some q) (c1 : p.canLay0 = true) (c2 : q.canLay0 = true) (d1 : p.depth ≤ 64) (d2 : q.depth ≤ 64) : eqD a b = some (PyData.eqv p q) := by
  have e : eqP a b = some (PyData.eqv p q) := by simp [eqP, h1, h2, SeqAt.shaped, c1, c2, d1, d2]
  unfold eqD
  cases h : strEq a b with
  | none => exact e
  | some k =>
    obtain ⟨x, y, rfl, rfl, rfl⟩ := strEq_inv h
    cases h1; cases h2
    simp only [PyData.eqv]
    by_cases e : x = y <;> simp [e]
mutual
theorem toPy_sh : ∀ d : D, toPy (sh d) = toPy d
  | .tup ds => by simp [toPy, toPyL_sh ds]
  | .lst o ds => by simp [toPy, toPyL_sh ds]
  | .frz ds => by simp [toPy, toPyL_sh ds]
  | .dct o ks ds => by simp [toPy]
  | .obj o c ns ds => by simp [sh, toPy]
  | .non => rfl
  | .bl _ => rfl
  | .int _ => rfl
  | .str _ => rfl
  | .exo _ _ => rfl
  | .dead => rfl
theorem toPyL_sh : ∀ ds : List D, toPyL (shL ds) = toPyL ds
  | [] => rfl
  | d :: ds => by simp [toPyL, toPy_sh d, toPyL_sh ds]
end
end Fl
namespace Fl
open PySem
mutual
def lf : D → Bool
  | .int i => decide (i.natAbs.log2 < 1900)
  | .str x => x.cps.toList.all fun c => decide (c < 4294967296)
  | .tup ds => lfL ds
  | .lst _ ds => lfL ds
  | .frz ds => lfL ds
  | _ => true
def lfL : List D → Bool
  | [] => true
  | d :: ds => lf d && lfL ds
end
mutual
def bulkD : D → Nat
  | .str x => x.cps.size
  | .tup ds => bulkL ds
  | .lst _ ds => bulkL ds
  | .frz ds => bulkL ds
  | _ => 0
def bulkL : List D → Nat
  | [] => 0
  | d :: ds => bulkD d + 1 + bulkL ds
end
end Fl
namespace Fl
open PySem PySem.Spec PyProof.Rows L2
section
variable {K : PySem.W.Frag} {W : Wh} {σ σ' : L2.St} {env env' : Env} {F A A' B C : List Addr} {Hs H Hs' H' Hs'' H'' Hs0 : Hp} {t ta tb : TE} {m ma mb : Exp} {d d1 d2 : D} {v : V} {P : List Nat} {s u : TS} {sm um : Stm}
def sForM (m : Exp) (f : Tgt) (body : Stm) : Stm := fun env => match m env with
  | .ok p => (match p.1 with
    | .lst true ds => forL f body ds p.2
    | _ => .no)
  | .no => .no
  | .ex x e => .ex x e
/-- a comprehension, its turns named -/
def eLcF (n : Nat) (it : Itm) (L : List D → Env → Option (List D × Env)) (vs : List Nat) : Exp := fun env => match it env with
  | .ok p => if p.2.length = n ∧ p.1.length ≤ 100000 then (match L p.1 (wipeD p.2 vs) with
    | some r => .ok (.lst true r.1, backD p.2 vs r.2)
    | none => .no) else .no
  | .no => .no
  | .ex x e => .ex x e
@[simp] theorem eLcF_app {n : Nat} {it : Itm} {L : List D → Env → Option (List D × Env)} {vs : List Nat} : eLcF n it L vs env = (match it env with
  | .ok p => if p.2.length = n ∧ p.1.length ≤ 100000 then (match L p.1 (wipeD p.2 vs) with
    | some r => .ok (.lst true r.1, backD p.2 vs r.2)
    | none => .no) else .no
  | .no => .no
  | .ex x e => .ex x e) := rfl
@[simp] theorem sForM_app {f : Tgt} {b : Stm} : sForM m f b env = (match m env with
  | .ok p => (match p.1 with
    | .lst true ds => forL f b ds p.2
    | _ => .no)
  | .no => .no
  | .ex x e => .ex x e) := rfl
end
section
variable {X : Cx} {W : Wh} {P : List Nat} {a tg : Expr} {ma : Exp} {ss : List Stmt} {sm : Stm} {pos : Pos}
theorem lookup_relabel {env : PySem.Env} {x : Str} : ∀ {names : List (Str × NameKind)}, (match names.lookup x with | some .cell => true | some .free => true | _ => false) = true →
    (match (names.map fun (n, k) => if (k == NameKind.free && env.scope.kind == .function && env.kindOf n == some .cell) then (n, NameKind.cell) else (n, k)).lookup x with | some .cell => true | some .free => true | _ => false) = true
  | [], h => by simp at h
  | (n, k) :: r, h => by
    have ih := lookup_relabel (env := env) (x := x) (names := r)
    show (match List.lookup x ((if (k == NameKind.free && env.scope.kind == .function && env.kindOf n == some .cell) = true then (n, NameKind.cell) else (n, k)) :: _) with | some .cell => true | some .free => true | _ => false) = true
    cases hx : x == n with
    | true =>
      simp only [List.lookup_cons, hx] at h
      by_cases hc : (k == NameKind.free && env.scope.kind == .function && env.kindOf n == some .cell) = true
      · rw [if_pos hc]; simp only [List.lookup_cons, hx]
      · rw [if_neg hc]; simp only [List.lookup_cons, hx]; exact h
    | false =>
      simp only [List.lookup_cons, hx] at h
      by_cases hc : (k == NameKind.free && env.scope.kind == .function && env.kindOf n == some .cell) = true
      · rw [if_pos hc]; simp only [List.lookup_cons, hx]; exact ih h
      · rw [if_neg hc]; simp only [List.lookup_cons, hx]; exact ih h
theorem blkC_relabel {N : List Str} {sc scope : Scope} {own : List (Str × Nat)} {env : PySem.Env} (h : blkC N sc scope own = true) : blkC N (relabel sc env) scope own = true := by
  unfold blkC at h ⊢
  simp only [Bool.and_eq_true, List.all_eq_true] at h ⊢
  obtain ⟨h1, h2⟩ := h
  refine ⟨h1, fun y hy => ?_⟩
  have q := h2 y hy
  revert q
  cases y.2 with
  | free => exact fun q => lookup_relabel q
  | _ => exact id
/-- a comprehension within another one -/
theorem ie_lcB {scope scope0 : Scope} {i0 : Ix} {n : Nat} {mi : Itm} {f : Tgt} {ifs : List Expr} {bm : Tst} {elt iter : Expr} {m : Exp} (own : List (Str × Nat)) (N : List Str) (hc : (blkOf X scope0 i0).calm = true) (hN : (blkOf X scope0 i0).N.Nodup) (hi : II (blkOf X scope0 i0) W tg iter mi) (kf : Kp f)
    (hg : ∀ i : Ix, IG (blkOf (blkOf X scope0 i0) scope i) ((List.range n).filter fun i => !(own.map (·.2)).contains i) tg f) (ht : ∀ i : Ix, ITs (blkOf (blkOf X scope0 i0) scope i) W0 ifs bm) (he : ∀ i : Ix, IE (blkOf (blkOf X scope0 i0) scope i) W0 elt m)
    (ok : blkC N scope0 scope own = true := by decide +kernel) (eN : (blkOf X scope0 i0).N = N := by rfl) (hs : ∀ x, foldedSetIterable iter (blkOf X scope0 i0).env x = pure x := by intro _; rfl) :
    IE (blkOf X scope0 i0) W (.ListComp elt [⟨tg, iter, ifs, 0⟩] scope pos) (eLc n mi f bm m (own.map (·.2))) := ie_lc own N (relabel scope0 X.env) hc hN hi kf hg ht he (blkC_relabel ok) eN (by exact rfl) hs
end
end Fl
namespace Fl
open PySem PySem.Spec PyProof.Rows L2
section
variable {K : PySem.W.Frag} {W : Wh} {σ σ' : L2.St} {env env' : Env} {F A A' B C : List Addr} {Hs H Hs' H' Hs'' H'' Hs0 : Hp} {t ta tb : TE} {m ma mb : Exp} {d d1 d2 : D} {v : V} {P : List Nat} {s u : TS} {sm um : Stm}
/-- a step: an item by a number, by a slot; a field f of an object of the class c -/
inductive PI where
  | ix (i : Int) | sl (j : Nat) | fd (c f : Str)
def idx1 (env : Env) (n : Nat) : PI → Option Nat
  | .ix i => ixN n i
  | .sl j => match env[j]? with
    | some (.int i) => ixN n i
    | _ => none
  | .fd _ _ => none
def findF : List Str → Str → Option Nat
  | [], _ => none
  | n :: ns, f => if f = n then some 0 else (findF ns f).map Nat.succ
/-- the items of a list or a tuple, the fields of an object -/
def itD2 : D → Option (List D)
  | .obj _ _ _ ds => some ds
  | d => itD d
def isObj : D → Bool
  | .obj _ _ _ _ => true
  | _ => false
def idxP (env : Env) (d : D) (n : Nat) : PI → Option Nat
  | .fd c f => match d with
    | .obj _ c' ns _ => if c' = c then findF ns f else none
    | _ => none
  | p => if isObj d then none else idx1 env n p
/-- the class c has no f of its own -/
def FK (K : PySem.W.Frag) (c f : Str) : Prop := ∃ C, PySem.W.nsIn K mainGlobals c = some (some (.ref C)) ∧ Cls K C ∧ NoAttr K C f
def PF (K : PySem.W.Frag) : List PI → Prop
  | [] => True
  | .fd c f :: ps => FK K c f ∧ PF K ps
  | _ :: ps => PF K ps
/-- the places' numbers -/
def res (env : Env) : D → List PI → Option (List Nat)
  | _, [] => some []
  | d, p :: ps => match itD2 d with
    | none => none
    | some ds => match idxP env d ds.length p with
      | none => none
      | some j => match ds[j]? with
        | none => none
        | some c => match res env c ps with
          | none => none
          | some js => some (j :: js)
def getN : D → List Nat → Option D
  | d, [] => some d
  | d, j :: js => match itD2 d with
    | none => none
    | some ds => match ds[j]? with
      | none => none
      | some c => getN c js
def putN : D → List Nat → D → Option D
  | _, [], x => some x
  | .tup ds, j :: js, x => match ds[j]? with
    | none => none
    | some c => match putN c js x with
      | none => none
      | some c' => some (.tup (ds.set j c'))
  | .lst true ds, j :: js, x => match ds[j]? with
    | none => none
    | some c => match putN c js x with
      | none => none
      | some c' => some (.lst true (ds.set j c'))
  | .obj true cn ns ds, j :: js, x => match ds[j]? with
    | none => none
    | some c => match putN c js x with
      | none => none
      | some c' => some (.obj true cn ns (ds.set j c'))
  | _, _ :: _, _ => none
theorem FK.at {c f : Str} {C : Addr} (h : FK K c f) (hc : PySem.W.nsIn K mainGlobals c = some (some (.ref C))) : Cls K C ∧ NoAttr K C f := by
  obtain ⟨C', h1, h2⟩ := h
  rw [hc] at h1
  cases h1
  exact h2
/-- x[..][..], x a name: just what is read is shared -/
def eP (i : Nat) (ps : List PI) : Exp := fun env => match env[i]? with
  | none => .no
  | some c => match res env c ps with
    | none => .no
    | some js => match getN c js with
      | none => .no
      | some d => if isDead d then .no else if own d then (match putN c js d, putN c js (sh d) with
        | some _, some c2 => .ok (sh d, env.set i c2)
        | _, _ => .no) else .ok (d, env)
theorem Ok.np {p : Addr} {Ax : List Addr} (o : Ok Hs H ((p :: Ax) ++ (B ++ C))) : Ax.count p = 0 ∧ B.count p = 0 ∧ C.count p = 0 := by
  have := o.nd p
  simp only [List.count_cons, List.count_append, beq_self_eq_true, if_true] at this
  omega
def fAppend : List D → List D → Option (List D × D)
  | ds, [e] => if ds.length < 100000 then some (ds ++ [e], .non) else none
  | _, _ => none
def fClear : List D → List D → Option (List D × D)
  | _, [] => some ([], .non)
  | _, _ => none
def fExtend : List D → List D → Option (List D × D)
  | ds, [.lst _ es] => if ds.length + es.length ≤ 100000 then some (ds ++ es, .non) else none
  | _, _ => none
def fInsert : List D → List D → Option (List D × D)
  | ds, [.int i, e] => if 0 ≤ i ∧ i ≤ 100000 ∧ ds.length < 100000 then some (ds.take i.toNat ++ [e] ++ ds.drop i.toNat, .non) else none
  | _, _ => none
def fReverse : List D → List D → Option (List D × D)
  | ds, [] => some (ds.reverse, .non)
  | _, _ => none
/-- x.m(..), x a name of an owned list -/
def eMut (i : Nat) (f : List D → List D → Option (List D × D)) (ms : Arg) : Exp := fun env => if isLst env i then (match ms env with
  | .no => .no
  | .ex x e => .ex x e
  | .ok p => match p.2[i]? with
    | some (.lst true ds) => (match f ds p.1 with
      | some q => .ok (q.2, p.2.set i (.lst true q.1))
      | none => .no)
    | _ => .no) else .no
/-- x[..][..].m(..): the arguments do not look at x -/
def eMutP (i : Nat) (ps : List PI) (f : List D → List D → Option (List D × D)) (ms : Arg) : Exp := fun env => match env[i]? with
  | none => .no
  | some c => match res env c ps with
    | none => .no
    | some js => match getN c js with
      | some (.lst true ds) => (match putN c js (.lst true ds) with
        | none => .no
        | some _ => match ms (env.set i .dead) with
          | .ok p => (match f ds p.1 with
            | none => .no
            | some q => match putN c js (.lst true q.1) with
              | none => .no
              | some c2 => .ok (q.2, p.2.set i c2))
          | _ => .no)
      | _ => .no
/-- x[..][..][p] = e -/
def sSetP (i : Nat) (ps : List PI) (p : PI) (me : Exp) : Stm := fun env => match me env with
  | .no => .no
  | .ex x e => .ex x e
  | .ok q => match q.2[i]? with
    | none => .no
    | some c => match res q.2 c ps with
      | none => .no
      | some js => match getN c js with
        | some (.lst true ds) => (match putN c js (.lst true ds), idx1 q.2 ds.length p with
          | some _, some j => (match putN c js (.lst true (ds.set j q.1)) with
            | some c2 => .nx (q.2.set i c2)
            | none => .no)
          | _, _ => .no)
        | _ => .no
/-- the slots L shared -/
def shF (L : List Nat) : Nat → Env → Env
  | _, [] => []
  | k, d :: env => (if L.contains k then sh d else d) :: shF L (k + 1) env
/-- the env behind a statement that borrowed the slots L and does not store to the slots Q -/
def backF (L Q : List Nat) : Nat → Env → Env → Env
  | k, c :: old, d :: new => (if clean d then d else if Q.contains k && (L.contains k || !own c) then c else .dead) :: backF L Q (k + 1) old new
  | _, _, _ => []
def sBor (L Q : List Nat) (s : Stm) : Stm := fun env => match s (shF L 0 env) with
  | .nx e => if e.length = env.length then .nx (backF L Q 0 env e) else .no
  | .rt d e => .rt d e
  | .ex x e => .ex x e
  | _ => .no
inductive ER2 (K : PySem.W.Frag) (Hs H : Hp) (L : List Nat) : Nat → L2.St → List D → List Addr → List Addr → Prop
  | nil {k} : ER2 K Hs H L k [] [] [] []
  | dead {k x σ env Bp A} : ER2 K Hs H L (k + 1) σ env Bp A → ER2 K Hs H L k (x :: σ) (.dead :: env) Bp A
  | inL {k v d B σ env Bp A} : L.contains k = true → RL K Hs H [v] [d] B → ER2 K Hs H L (k + 1) σ env Bp A → ER2 K Hs H L k (some v :: σ) (d :: env) (B ++ Bp) A
  | out {k v d B σ env Bp A} : L.contains k = false → RL K Hs H [v] [d] B → ER2 K Hs H L (k + 1) σ env Bp A → ER2 K Hs H L k (some v :: σ) (d :: env) Bp (B ++ A)
theorem ER.two {L : List Nat} {σ : L2.St} {env : List D} {A : List Addr} (r : ER K Hs H σ env A) : ∀ k, ∃ Bp A', ER2 K Hs H L k σ env Bp A' ∧ ∀ a, A.count a = Bp.count a + A'.count a := by
  induction r with
  | nil => exact fun k => ⟨[], [], .nil, fun a => by simp⟩
  | dead _ ih => exact fun k => let ⟨Bp, A', h1, h2⟩ := ih (k + 1); ⟨Bp, A', .dead h1, h2⟩
  | @cons v d B σ env A q r ih =>
    intro k
    obtain ⟨Bp, A', h1, h2⟩ := ih (k + 1)
    cases hk : L.contains k with
    | true => exact ⟨B ++ Bp, A', .inL hk q h1, fun a => by have := h2 a; simp only [List.count_append]; omega⟩
    | false => exact ⟨Bp, B ++ A', .out hk q h1, fun a => by have := h2 a; simp only [List.count_append]; omega⟩
theorem ER2.back {L Q : List Nat} {Hs2 H2 Hs3 : Hp} (ext : ∀ a u, Hs a = some u → Hs3 a = some u) (un : ∀ a xs, Rd Hs2 a (.tup xs) → Hs3 a = Hs2 a) {k : Nat} {σ : L2.St} {env : List D} {Bp A' : List Addr} (r : ER2 K Hs H L k σ env Bp A') :
    (∀ a u, 0 < Bp.count a → H a = some u → H2 a = some u) → ∀ {σ2 : L2.St} {new : List D} {A2 : List Addr}, ER K Hs2 H2 σ2 new A2 → new.length = env.length → (∀ i, Q.contains (k + i) = true → σ2[i]? = σ[i]?) →
    ∃ A3, ER K Hs3 H2 σ2 (backF L Q k env new) A3 ∧ ∀ a, A3.count a ≤ A2.count a + Bp.count a := by
  induction r with
  | nil =>
    intro _ σ2 new A2 r2 hl hp
    cases r2 with
    | nil => exact ⟨[], .nil, fun a => by simp⟩
    | dead _ => simp at hl
    | cons _ _ => simp at hl
  | @dead k x σ env Bp A r ih =>
    intro hk σ2 new A2 r2 hl hp
    cases r2 with
    | nil => simp at hl
    | @dead y σ3 env3 A4 r3 =>
      obtain ⟨A3, h1, h2⟩ := ih hk r3 (by simpa using hl) fun i hi => by have := hp (i + 1) (by rw [← hi]; congr 1; omega); simpa using this
      refine ⟨A3, ?_, h2⟩
      unfold backF
      have : (if clean D.dead then D.dead else if Q.contains k && (L.contains k || !own D.dead) then D.dead else .dead) = .dead := by simp
      rw [this]; exact .dead h1
    | @cons w d B2 σ3 env3 A4 q3 r3 =>
      obtain ⟨A3, h1, h2⟩ := ih hk r3 (by simpa using hl) fun i hi => by have := hp (i + 1) (by rw [← hi]; congr 1; omega); simpa using this
      unfold backF
      cases hc : clean d with
      | true => exact ⟨B2 ++ A3, .cons (q3.unshare (by simpa [cleanL] using hc) un) h1, fun a => by have := h2 a; simp only [List.count_append]; omega⟩
      | false =>
        have : (if false = true then d else if Q.contains k && (L.contains k || !own D.dead) then D.dead else .dead) = .dead := by simp
        rw [this]
        exact ⟨A3, .dead h1, fun a => by have := h2 a; simp only [List.count_append]; omega⟩
  | @inL k v c B σ env Bp A hkL q r ih =>
    intro hk σ2 new A2 r2 hl hp
    have hk' : ∀ a u, 0 < Bp.count a → H a = some u → H2 a = some u := fun a u z => hk a u (by rw [List.count_append]; omega)
    cases r2 with
    | nil => simp at hl
    | @dead y σ3 env3 A4 r3 =>
      obtain ⟨A3, h1, h2⟩ := ih hk' r3 (by simpa using hl) fun i hi => by have := hp (i + 1) (by rw [← hi]; congr 1; omega); simpa using this
      unfold backF
      rw [if_neg (by simp)]
      cases hq : Q.contains k with
      | false => exact ⟨A3, by simpa using ER.dead h1, fun a => by have := h2 a; simp only [List.count_append]; omega⟩
      | true =>
        have hv := hp 0 hq
        simp at hv
        subst hv
        rw [if_pos (by rw [hkL]; rfl)]
        exact ⟨B ++ A3, .cons (q.mono ext fun a u z => hk a u (by rw [List.count_append]; omega)) h1, fun a => by have := h2 a; simp only [List.count_append]; omega⟩
    | @cons w d B2 σ3 env3 A4 q3 r3 =>
      obtain ⟨A3, h1, h2⟩ := ih hk' r3 (by simpa using hl) fun i hi => by have := hp (i + 1) (by rw [← hi]; congr 1; omega); simpa using this
      unfold backF
      cases hc : clean d with
      | true => exact ⟨B2 ++ A3, .cons (q3.unshare (by simpa [cleanL] using hc) un) h1, fun a => by have := h2 a; simp only [List.count_append]; omega⟩
      | false =>
        rw [if_neg (by simp)]
        cases hq : Q.contains k with
        | false => exact ⟨A3, by simpa using ER.dead h1, fun a => by have := h2 a; simp only [List.count_append]; omega⟩
        | true =>
          have hv := hp 0 hq
          simp at hv
          subst hv
          rw [if_pos (by rw [hkL]; rfl)]
          exact ⟨B ++ A3, .cons (q.mono ext fun a u z => hk a u (by rw [List.count_append]; omega)) h1, fun a => by have := h2 a; simp only [List.count_append]; omega⟩
  | @out k v c B σ env Bp A hkL q r ih =>
    intro hk σ2 new A2 r2 hl hp
    cases r2 with
    | nil => simp at hl
    | @dead y σ3 env3 A4 r3 =>
      obtain ⟨A3, h1, h2⟩ := ih hk r3 (by simpa using hl) fun i hi => by have := hp (i + 1) (by rw [← hi]; congr 1; omega); simpa using this
      unfold backF
      rw [if_neg (by simp)]
      cases hq : (Q.contains k && (L.contains k || !own c)) with
      | false => exact ⟨A3, by simpa using ER.dead h1, h2⟩
      | true =>
        rw [if_pos rfl]
        simp only [Bool.and_eq_true, Bool.or_eq_true, hkL] at hq
        have hv := hp 0 (by simpa using hq.1)
        simp at hv
        subst hv
        have hw : own c = false := by simpa using hq.2
        have : B = [] := q.own0 (by simp [ownL, hw])
        subst this
        exact ⟨[] ++ A3, .cons (q.mono ext fun a u z => by simp at z) h1, fun a => by have := h2 a; simpa using this⟩
    | @cons w d B2 σ3 env3 A4 q3 r3 =>
      obtain ⟨A3, h1, h2⟩ := ih hk r3 (by simpa using hl) fun i hi => by have := hp (i + 1) (by rw [← hi]; congr 1; omega); simpa using this
      unfold backF
      cases hc : clean d with
      | true => exact ⟨B2 ++ A3, .cons (q3.unshare (by simpa [cleanL] using hc) un) h1, fun a => by have := h2 a; simp only [List.count_append]; omega⟩
      | false =>
        rw [if_neg (by simp)]
        cases hq : (Q.contains k && (L.contains k || !own c)) with
        | false => exact ⟨A3, by simpa using ER.dead h1, fun a => by have := h2 a; simp only [List.count_append]; omega⟩
        | true =>
          rw [if_pos rfl]
          simp only [Bool.and_eq_true, Bool.or_eq_true, hkL] at hq
          have hv := hp 0 (by simpa using hq.1)
          simp at hv
          subst hv
          have hw : own c = false := by simpa using hq.2
          have : B = [] := q.own0 (by simp [ownL, hw])
          subst this
          exact ⟨[] ++ A3, .cons (q.mono ext fun a u z => by simp at z) h1, fun a => by have := h2 a; simp only [List.count_append, List.count_nil]; omega⟩
end
section
variable {X : Cx} {W : Wh} {P : List Nat} {a tg e b : Expr} {es : List Expr} {ma mb m : Exp} {ms : Arg} {s : Stmt} {sm : Stm} {pos p : Pos} {x : Str}
theorem PF.snoc {K : PySem.W.Frag} : ∀ {ps : List PI} {p : PI}, PF K ps → PF K [p] → PF K (ps ++ [p])
  | [], p, _, h => h
  | .fd c f :: ps, p, h1, h => ⟨h1.1, PF.snoc h1.2 h⟩
  | .ix i :: ps, p, h1, h => PF.snoc (ps := ps) h1 h
  | .sl i :: ps, p, h1, h => PF.snoc (ps := ps) h1 h
end
section
variable {env : Env} {d c : D} {i j : Nat} {js : List Nat} {ds : List D} {p : PI} {ps : List PI}
@[simp] theorem eP_app : eP i ps env = (match env[i]? with
  | none => .no
  | some c => match res env c ps with
    | none => .no
    | some js => match getN c js with
      | none => .no
      | some d => if isDead d then .no else if own d then (match putN c js d, putN c js (sh d) with
        | some _, some c2 => .ok (sh d, env.set i c2)
        | _, _ => .no) else .ok (d, env)) := rfl
@[simp] theorem idx1_ix {n : Nat} {k : Int} : idx1 env n (.ix k) = L2.ixN n k := rfl
@[simp] theorem idx1_sl {n : Nat} : idx1 env n (.sl j) = (match env[j]? with | some (.int i) => L2.ixN n i | _ => none) := rfl
@[simp] theorem res_nil : res env d [] = some [] := rfl
@[simp] theorem itD2_tup : itD2 (.tup ds) = some ds := rfl
@[simp] theorem itD2_lst {o : Bool} : itD2 (.lst o ds) = some ds := rfl
@[simp] theorem itD2_obj {o : Bool} {c : Str} {ns : List Str} : itD2 (.obj o c ns ds) = some ds := rfl
@[simp] theorem idxP_tup {n : Nat} : idxP env (.tup ds) n p = idx1 env n p := by cases p <;> rfl
@[simp] theorem idxP_lst {o : Bool} {n : Nat} : idxP env (.lst o ds) n p = idx1 env n p := by cases p <;> rfl
@[simp] theorem res_cons : res env d (p :: ps) = (match itD2 d with
    | none => none
    | some ds => match idxP env d ds.length p with
      | none => none
      | some j => match ds[j]? with
        | none => none
        | some c => match res env c ps with
          | none => none
          | some js => some (j :: js)) := rfl
@[simp] theorem getN_nil : getN d [] = some d := by cases d <;> rfl
@[simp] theorem getN_cons : getN d (j :: js) = (match itD2 d with
    | none => none
    | some ds => match ds[j]? with
      | none => none
      | some c => getN c js) := by cases d <;> rfl
@[simp] theorem putN_nil {x : D} : putN d [] x = some x := by cases d <;> rfl
@[simp] theorem putN_tup {x : D} : putN (.tup ds) (j :: js) x = (match ds[j]? with
    | none => none
    | some c => match putN c js x with
      | none => none
      | some c' => some (.tup (ds.set j c'))) := rfl
@[simp] theorem putN_lst {x : D} : putN (.lst true ds) (j :: js) x = (match ds[j]? with
    | none => none
    | some c => match putN c js x with
      | none => none
      | some c' => some (.lst true (ds.set j c'))) := rfl
@[simp] theorem eMut_app {f : List D → List D → Option (List D × D)} {ms : Arg} : eMut i f ms env = if isLst env i then (match ms env with
  | .no => .no
  | .ex x e => .ex x e
  | .ok p => match p.2[i]? with
    | some (.lst true ds) => (match f ds p.1 with
      | some q => .ok (q.2, p.2.set i (.lst true q.1))
      | none => .no)
    | _ => .no) else .no := rfl
@[simp] theorem eMutP_app {f : List D → List D → Option (List D × D)} {ms : Arg} : eMutP i ps f ms env = (match env[i]? with
  | none => .no
  | some c => match res env c ps with
    | none => .no
    | some js => match getN c js with
      | some (.lst true ds) => (match putN c js (.lst true ds) with
        | none => .no
        | some _ => match ms (env.set i .dead) with
          | .ok p => (match f ds p.1 with
            | none => .no
            | some q => match putN c js (.lst true q.1) with
              | none => .no
              | some c2 => .ok (q.2, p.2.set i c2))
          | _ => .no)
      | _ => .no) := rfl
@[simp] theorem sSetP_app {me : Exp} : sSetP i ps p me env = (match me env with
  | .no => .no
  | .ex x e => .ex x e
  | .ok q => match q.2[i]? with
    | none => .no
    | some c => match res q.2 c ps with
      | none => .no
      | some js => match getN c js with
        | some (.lst true ds) => (match putN c js (.lst true ds), idx1 q.2 ds.length p with
          | some _, some j => (match putN c js (.lst true (ds.set j q.1)) with
            | some c2 => .nx (q.2.set i c2)
            | none => .no)
          | _, _ => .no)
        | _ => .no) := rfl
@[simp] theorem fAppend_app : fAppend ds [d] = if ds.length < 100000 then some (ds ++ [d], .non) else none := rfl
@[simp] theorem fClear_app : fClear ds [] = some ([], .non) := rfl
@[simp] theorem fExtend_app {o : Bool} {es : List D} : fExtend ds [.lst o es] = if ds.length + es.length ≤ 100000 then some (ds ++ es, .non) else none := rfl
@[simp] theorem fInsert_app {k : Int} : fInsert ds [.int k, d] = if 0 ≤ k ∧ k ≤ 100000 ∧ ds.length < 100000 then some (ds.take k.toNat ++ [d] ++ ds.drop k.toNat, .non) else none := rfl
@[simp] theorem fReverse_app : fReverse ds [] = some (ds.reverse, .non) := rfl
@[simp] theorem shF_nil {L : List Nat} {k : Nat} : shF L k [] = [] := rfl
@[simp] theorem shF_cons {L : List Nat} {k : Nat} : shF L k (d :: env) = (if L.contains k then sh d else d) :: shF L (k + 1) env := rfl
@[simp] theorem backF_nil {L Q : List Nat} {k : Nat} : backF L Q k [] [] = [] := rfl
@[simp] theorem backF_cons {L Q : List Nat} {k : Nat} {old new : Env} : backF L Q k (c :: old) (d :: new) = (if clean d then d else if Q.contains k && (L.contains k || !own c) then c else .dead) :: backF L Q (k + 1) old new := rfl
@[simp] theorem sBor_app {L Q : List Nat} {s : Stm} : sBor L Q s env = (match s (shF L 0 env) with
  | .nx e => if e.length = env.length then .nx (backF L Q 0 env e) else .no
  | .rt d e => .rt d e
  | .ex x e => .ex x e
  | _ => .no) := rfl
end
end Fl
namespace Fl
open PySem PySem.Spec PyProof.Rows L2 PySem.W
def IntRow (h : Heap) (v : Value) (x : Int) (u : Value) : Prop := ∃ a t, v = .ref a ∧ IsTup h a #[.int x t, u]
def inOf : Option Value → Int
  | some (.int x _) => x
  | _ => 0
def rowK (h : Heap) (v : Value) : Int := inOf (DT.seqAt0 h (DT.refOf (some v)))
theorem IntRow.key {h : Heap} {v : Value} {x : Int} {u : Value} (r : IntRow h v x u) : rowK h v = x := by
  obtain ⟨a, t, rfl, h1⟩ := r
  show inOf (DT.seqAt0 h a) = x
  rw [DT.seqAt0_of h1]
  rfl
theorem isTup_two {h : Heap} {a : Addr} {i j : Array Value} (x : IsTup h a i) (y : IsTup h a j) : i = j := by
  obtain ⟨o, h1, _, n, h2⟩ := x
  obtain ⟨o', h1', _, n', h2'⟩ := y
  rw [h1] at h1'; cases h1'
  rw [h2] at h2'; cases h2'; rfl
section
variable {prog : Program} {w : World} {A : Around} {E : Value → Shared → Prop} {s : Shared}
theorem firsts_ir {h : Heap} : ∀ vs : List Value, (∀ v ∈ vs, ∃ y u, IntRow h v y u) → ∃ fs : List Value, KatTups h vs fs ∧ fs.length = vs.length ∧ ∀ f ∈ fs, ∃ x t, f = Value.int x t
  | [], _ => ⟨[], KatTups.nil, rfl, fun f hf => by simp at hf⟩
  | v :: vs, x => by
    obtain ⟨fs, k, hl, hi⟩ := firsts_ir vs fun u hu => x u (List.mem_cons_of_mem _ hu)
    obtain ⟨y, u, a, t, rfl, o, ho, hc, n, hd⟩ := x v (List.mem_cons_self ..)
    refine ⟨.int y t :: fs, KatTups.cons ho hc hd rfl k, by rw [List.length_cons, List.length_cons, hl], fun f hf => ?_⟩
    rcases List.mem_cons.mp hf with rfl | hf
    · exact ⟨y, t, rfl⟩
    · exact hi f hf
theorem kind_ir {vs : List Value} (h0 : 0 < vs.length) (x : ∀ v ∈ vs, ∃ y u, IntRow s.heap v y u) (dd : ∀ v ∈ vs, ∀ v' ∈ vs, rowK s.heap v = rowK s.heap v' → v = v')
    (Q : SortKind → Shared → Prop) (h : ∀ κ, TS.Cmp prog w A s κ (pairsOf vs) (rowK s.heap) → Q κ s) : wpAny (model prog w) A (keyKind' vs.toArray) Q E s := by
  obtain ⟨fs, k, hl, hi⟩ := firsts_ir vs x
  refine kat_kind (T := Value.type "int") k (by omega) (fun f hf => ?_) rfl (h _ ?_)
  · obtain ⟨x, t, rfl⟩ := hi f hf
    exact PySem.W.Looks.now
  · have hb : (Value.type "int" != Value.type "tuple") = true := by first | decide +kernel | rfl | decide | simp
    rw [hb]
    intro p q hp hq Q' E' hQ
    rw [pairsOf_toList] at hp hq
    have mp := (mem_zip_self hp).2
    have mq := (mem_zip_self hq).2
    obtain ⟨y, u, py⟩ := x _ mp
    obtain ⟨z, u', pz⟩ := x _ mq
    have hd := dd _ mp _ mq
    rw [py.key, pz.key] at hQ hd
    obtain ⟨a, t, e1, r1⟩ := py
    obtain ⟨a', t', e2, r2⟩ := pz
    rw [e1, e2] at hd ⊢
    obtain ⟨o, ho, hc, n, hdt⟩ := id r1
    obtain ⟨o', ho', hc', n', hdt'⟩ := id r2
    refine kat_lt ho hdt ho' hdt' ?_
    show KatLex prog w A true (decide (2 < 2)) Q' [(.int y t, .int z t'), (u, u')] 0 s
    refine kat_cons (SeqAt.EqAt.int_int y t z t' prog w _ _ ?_)
    refine kat_go (fun e => ?_) (fun e => ?_)
    · have ex : y = z := by simpa using e
      have ea := hd ex
      have e3 : a = a' := by injection ea
      subst e3
      have e4 := isTup_two r1 r2
      have e5 : u = u' := by simp at e4; exact e4.2
      subst e5
      have irr : decide (y < z) = false := by rw [ex]; exact decide_eq_false (Int.lt_irrefl _)
      rw [irr] at hQ
      refine kat_yes (kat_cons (SeqAt.EqAt.same u prog w _ _ ?_))
      exact kat_go (fun _ => kat_yes (kat_nil hQ)) (fun e => by cases e)
    · exact kat_no (oneLt_int hQ)
end
theorem pairs_get {prog : Program} {w : World} {κ : Type} [DecidableEq κ] {knd : PySem.KeyKind prog w κ} : ∀ {es : List DictEntry} {vs : List (κ × Value)} {j : Nat} {e : DictEntry}, Pairs knd es vs → es[j]? = some e → ∃ kv, vs[j]? = some kv ∧ knd.is kv.1 e.key = true ∧ e.val = kv.2
  | _, _, j, e, .nil, h => by simp at h
  | _, _, 0, e, .cons (kv := kv) h1 h2 _, h => by simp at h; subst h; exact ⟨kv, rfl, h1, h2⟩
  | _, _, j + 1, e, .cons _ _ t, h => by
    simp only [List.getElem?_cons_succ] at h
    obtain ⟨kv, e1, e2⟩ := pairs_get (j := j) t h
    exact ⟨kv, by rw [List.getElem?_cons_succ]; exact e1, e2⟩
section
variable {X : Cx}
def rItemsK : V → List V → Hp → VK → Prop := fun x xs H Q => ∃ (a : Addr) (kvs : List (Key × V)), x = .ref a ∧ xs = [] ∧ H a = some (.dK kvs) ∧ ∀ p, H p = none → Q (.ref p) (upd H p (DX.itemsO p a))
theorem mt_itemsK : MtR X "dict.items" rItemsK := by
  intro pins s σ H x xs v us Q I rx rxs h
  obtain ⟨a, kvs, rfl, rfl, ha, q⟩ := h
  cases rx
  cases rxs
  obtain ⟨z, hd, vs, rel, o, es, ep, ho, hx, hdat, _⟩ := dk_of I.hok ha
  refine DT.callItems (es := es) (ep := ep) hd ⟨o, ho, hx, hdat⟩ ?_
  have hf : H s.heap.objs.size = none := I.hok.fresh (Nat.le_refl _)
  exact ⟨.ref s.heap.objs.size, upd H s.heap.objs.size (DX.itemsO s.heap.objs.size a), I.laid (t' := s.toks) (fun b u e => Heap.get?_push_of_some _ e) (Nat.le_refl _) (DX.itemsO_ok (Heap.get?_push_size _ rfl)), rfl, q _ hf⟩
abbrev entI (e : Int × V) : Key × V := (.inl e.1, e.2)
def rSortK : List V → Hp → VK → Prop := fun vs H Q => ∃ (p a : Addr) (ks : List (Int × V)), vs = [.ref p] ∧ H p = some (DX.itemsO p a) ∧ H a = some (.dK (ks.map entI)) ∧ ks.length < 64 ∧
  ∀ (H' : Hp) (l : Addr) (ps : List (Addr × Int × V)), (∀ b o, H b = some o → H' b = some o) → (ps.map (·.2)).Perm ks → (ps.map (·.2)).Pairwise (fun e f => e.1 ≤ f.1) → H l = none → H' l = some (.lst (ps.map fun z => V.ref z.1)) →
    (∀ z ∈ ps, H z.1 = none ∧ H' z.1 = some (.tup [.int z.2.1, z.2.2])) → Q (.ref l) H'
theorem cr_sortedK (hc : X.calm = true) : CallR X (.builtin "sorted") rSortK := by
  intro pins s σ H xs us Q I r h
  obtain ⟨p, a, ks, rfl, hp, ha, h64, q⟩ := h
  obtain rfl := Vals.ref1 r
  have view : s.heap.IsItemsView p a := (show ObjOk X.prog X.w H s.heap p (DX.itemsO p a) from I.hok p _ hp).1
  obtain ⟨z, hd, vs, rel, o, es, ep, ho, hx, hdat, hkeys, hpairs, hn⟩ := dk_of I.hok ha
  have l1 : (ks.map entI).length = vs.length := Paired.length rel
  rw [List.length_map] at l1
  have l2 : es.size = vs.length := by rw [← Array.length_toList]; exact hpairs.length
  have hh : X.A.handled = none := I.ok.hd hc
  have hkn : (ks.map (·.1)).Nodup := by
    have e : vs.map (·.1) = ks.map (fun e => (Sum.inl e.1 : Key)) := by
      have rel' := rel
      unfold KV at rel'
      have g : ∀ {l : List (Int × V)} {m : List (Key × Value)}, Paired (fun (p : Key × V) (q : Key × Value) => p.1 = q.1 ∧ RelV p.2 q.2) (l.map entI) m → m.map (·.1) = l.map (fun e => (Sum.inl e.1 : Key)) := by
        intro l
        induction l with
        | nil => intro m x; cases x; rfl
        | cons b l ih => intro m x; cases x with
          | cons h t => simp only [List.map_cons, ih t]; rw [← h.1]
      exact g rel'
    rw [e] at hn
    have e2 : ks.map (fun e => (Sum.inl e.1 : Key)) = (ks.map (·.1)).map Sum.inl := by rw [List.map_map]; rfl
    rw [e2] at hn
    exact List.Pairwise.of_map Sum.inl (fun a b h e => h (by rw [e])) hn
  refine DT.sortedI (es := es) (ep := ep) hh view ⟨o, ho, hx, hdat⟩ (by rw [sizeLine_eq]; omega) fun h' tk as hk hlt hl hG => ?_
  have lak : as.length = ks.length := by omega
  have nd : as.Nodup := List.Pairwise.imp (fun h => Nat.ne_of_lt h) hG.rise
  -- the pairs that were made
  have pr : ∀ (j : Nat) (b : Addr), as[j]? = some b → ∃ (e : Int × V) (t : Tok) (u : Value), ks[j]? = some e ∧ RelV e.2 u ∧ h'.get? b = some { cls := .type "tuple", data := .seq #[Value.int e.1 t, u] } := by
    intro j b hj
    obtain ⟨en, he, hg⟩ := hG.pairs j b hj
    rw [← Array.getElem?_toList] at he
    obtain ⟨kv, hkv, k1, k2⟩ := pairs_get hpairs he
    obtain ⟨e0, he0, r1, r2⟩ := DX.pget rel hkv
    rw [List.getElem?_map] at he0
    cases hkj : ks[j]? with
    | none =>
      rw [hkj] at he0
      exact nomatch (show (none : Option (Key × V)) = some e0 from he0)
    | some e =>
      rw [hkj] at he0
      have ee : entI e = e0 := Option.some.inj he0
      rw [← ee] at r1 r2
      have k1' : keyIs kv.1 en.key = true := k1
      rw [← r1] at k1'
      rcases keyIs_shape k1' with ⟨i, t, ek, ev⟩ | ⟨x, t, ek, ev⟩
      · have e9 : e.1 = i := by injection ek
        exact ⟨e, t, kv.2, rfl, r2, by rw [hg, ev, k2, e9]⟩
      · cases ek
  -- the heap of the sort
  have hob : (h'.push { cls := .type "list", data := .seq (as.map Value.ref).toArray }).get? h'.objs.size = some (seqObj "list" (as.map Value.ref).toArray 0) := Heap.get?_push_size _ rfl
  have kb : ∀ b o, s.heap.get? b = some o → (h'.push { cls := .type "list", data := .seq (as.map Value.ref).toArray }).get? b = some o := fun b o e => Heap.get?_push_of_some _ (hk b o e)
  have ne0 : ∀ b o, h'.get? b = some o → b ≠ h'.objs.size := fun b o e => Nat.ne_of_lt (Heap.lt_size e)
  generalize hh2 : h'.push { cls := .type "list", data := .seq (as.map Value.ref).toArray } = h2 at hob kb ⊢
  have ka : ∀ b o, h'.get? b = some o → h2.get? b = some o := fun b o e => by rw [← hh2]; exact Heap.get?_push_of_some _ e
  have pin : ∀ (j : Nat) (b : Addr), as[j]? = some b → ∃ (e : Int × V) (u : Value), ks[j]? = some e ∧ IntRow (TS.midHeap h2 h'.objs.size (as.map Value.ref)) (.ref b) e.1 u := by
    intro j b hj
    obtain ⟨e, t, u, he, _, hg⟩ := pr j b hj
    exact ⟨e, u, he, b, t, rfl, ⟨_, TS.midHeap_old (ne0 _ _ hg) (ka _ _ hg), rfl, 0, rfl⟩⟩
  have tx : ∀ (j : Nat) (b : Addr) (e : Int × V), as[j]? = some b → ks[j]? = some e → rowK (TS.midHeap h2 h'.objs.size (as.map Value.ref)) (.ref b) = e.1 := by
    intro j b e hj he
    obtain ⟨e', u, he', hp'⟩ := pin j b hj
    have ee : e' = e := Option.some.inj (he'.symm.trans he)
    rw [← ee]
    exact hp'.key
  have at_ : ∀ v ∈ as.map Value.ref, ∃ (j : Nat) (b : Addr) (e : Int × V), v = .ref b ∧ as[j]? = some b ∧ ks[j]? = some e := by
    intro v hv'
    obtain ⟨b, hb, rfl⟩ := List.mem_map.mp hv'
    obtain ⟨j, hj⟩ := List.mem_iff_getElem?.mp hb
    obtain ⟨e, _, _, he, _⟩ := pr j b hj
    exact ⟨j, b, e, rfl, hj, he⟩
  refine wpAny_call_entry PyProof.Rows.slot_list_sort ⟨_, hob, rfl⟩ PyProof.Rows.entry_list_sort
    (SK.plain_sort (s := { s with heap := h2, toks := tk }) (r := rowK (TS.midHeap h2 h'.objs.size (as.map Value.ref))) hob (by rw [List.length_map]; omega) (fun h2' Qk hQk => ?_) fun ps out o1 o2 o3 => ⟨.none, rfl, ?_⟩) (PyProof.Rows.args_list_sort _)
  · refine kind_ir (s := { s with heap := TS.midHeap h2 h'.objs.size (as.map Value.ref), toks := tk }) (by omega) (fun v hv' => ?_) (fun v hv' u hu' e => ?_) Qk hQk
    · obtain ⟨j, b, e, rfl, hj, he⟩ := at_ v hv'
      obtain ⟨e', u, _, hp'⟩ := pin j b hj
      exact ⟨e'.1, u, hp'⟩
    · obtain ⟨j, b, e1, rfl, hj, he⟩ := at_ v hv'
      obtain ⟨j2, b2, e2, rfl, hj2, he2⟩ := at_ u hu'
      have e' : rowK (TS.midHeap h2 h'.objs.size (as.map Value.ref)) (.ref b) = rowK (TS.midHeap h2 h'.objs.size (as.map Value.ref)) (.ref b2) := e
      rw [tx j b e1 hj he, tx j2 b2 e2 hj2 he2] at e'
      have f1 : (ks.map (·.1))[j]? = some e1.1 := by rw [List.getElem?_map, he]; rfl
      have f2 : (ks.map (·.1))[j2]? = some e2.1 := by rw [List.getElem?_map, he2]; rfl
      have ej : j = j2 := (List.getElem?_inj (List.getElem?_eq_some_iff.mp f1).1 hkn).mp (by rw [f1, f2, e'])
      subst ej
      rw [hj] at hj2
      cases hj2
      rfl
  · show EP X pins σ Q (.ref h'.objs.size) { s with heap := sortedHeap h2 h'.objs.size (as.map Value.ref) out, toks := tk }
    obtain ⟨zs, pz, ez⟩ := perm_lift (fun z : Addr × Int × V => (Value.ref z.1, Value.ref z.1)) o2 (as.zip ks) (DX.zip_self Value.ref as ks lak)
    have idx : ∀ z ∈ zs, ∃ j : Nat, as[j]? = some z.1 ∧ ks[j]? = some z.2 := by
      intro z' hz'
      obtain ⟨j, hj⟩ := List.mem_iff_getElem?.mp (pz.mem_iff.mp hz')
      exact ⟨j, List.getElem?_zip_eq_some.mp hj⟩
    have hout : out.toList = zs.map fun z => Value.ref z.1 := by
      rw [o1, ← ez, List.map_map]
      all_goals rfl
    have hperm : (zs.map (·.2)).Perm ks := by
      have e := pz.map (·.2)
      have m2 : (as.zip ks).map (·.2) = ks := List.map_snd_zip (by rw [lak]; exact Nat.le_refl _)
      rw [m2] at e
      exact e
    have hsort : (zs.map (·.2)).Pairwise (fun e f => e.1 ≤ f.1) := by
      rw [← ez, List.pairwise_map] at o3
      rw [List.pairwise_map]
      refine List.Pairwise.imp_of_mem (fun {x y} hx hy h => ?_) o3
      obtain ⟨j, j1, j2⟩ := idx x hx
      obtain ⟨i, i1, i2⟩ := idx y hy
      have h' : rowK (TS.midHeap h2 h'.objs.size (as.map Value.ref)) (.ref x.1) ≤ rowK (TS.midHeap h2 h'.objs.size (as.map Value.ref)) (.ref y.1) := h
      rw [tx j _ _ j1 j2, tx i _ _ i1 i2] at h'
      exact h'
    -- behind the sort
    have kF : ∀ b o, b ≠ h'.objs.size → h2.get? b = some o → (sortedHeap h2 h'.objs.size (as.map Value.ref) out).get? b = some o := fun b o hb e => (PyProof.Rows.sortedHeap_old hb (Heap.lt_size e)).trans e
    have kS : ∀ b o, s.heap.get? b = some o → (sortedHeap h2 h'.objs.size (as.map Value.ref) out).get? b = some o := fun b o e => kF b o (ne0 _ _ (hk b o e)) (kb b o e)
    obtain ⟨eF, heF⟩ := PyProof.Rows.sortedHeap_at (vs := as.map Value.ref) (out := out) hob
    have I1 : Inv X pins σ H { s with heap := sortedHeap h2 h'.objs.size (as.map Value.ref) out, toks := tk } := I.kept (t' := tk) kS
    have hn0 : H h'.objs.size = none := I.hok.fresh (Nat.le_of_lt hlt)
    have hlen : (zs.map fun z => V.ref z.1).length ≤ sizeLine := by
      have e := hperm.length_eq
      rw [List.length_map] at e
      rw [List.length_map, sizeLine_eq]
      omega
    have rv : Vals (zs.map fun z => V.ref z.1) out.toList := by
      rw [hout]
      exact vals_maps (fun z : Addr × Int × V => V.ref z.1) (fun z => Value.ref z.1) zs fun _ _ => rfl
    have I2 : Inv X pins σ (upd H h'.objs.size (.lst (zs.map fun z => V.ref z.1))) { s with heap := sortedHeap h2 h'.objs.size (as.map Value.ref) out, toks := tk } :=
      I1.take (h' := sortedHeap h2 h'.objs.size (as.map Value.ref) out) (t' := tk) (fun b ob _ e => e) (I.fpOk (Nat.le_of_lt hlt) hn0) ⟨hlen, out.toList, eF, rv, heF⟩
    obtain ⟨H2, I3, g, qt⟩ := DX.takeT (P := fun b vs => ∃ (j : Nat) (e : Int × V), as[j]? = some b ∧ ks[j]? = some e ∧ vs = [.int e.1, e.2]) I as _ I2 nd fun b hb => by
      obtain ⟨j, hj⟩ := List.mem_iff_getElem?.mp hb
      obtain ⟨e, t, u, he, hu, hg⟩ := pr j b hj
      have hbl : s.heap.objs.size ≤ b := Nat.le_of_lt (hG.above b hb)
      refine ⟨hbl, ?_, [.int e.1, e.2], ⟨j, e, hj, he, rfl⟩, fun H3 => ⟨(by rw [sizeLine_eq]; show 2 ≤ 16777216; omega), [Value.int e.1 t, u], .cons ⟨t, rfl⟩ (.cons hu .nil), ⟨_, kF _ _ (ne0 _ _ hg) (ka _ _ hg), rfl, 0, rfl⟩⟩⟩
      rw [upd_ne (ne0 _ _ hg)]
      exact I.hok.fresh hbl
    have gr : ∀ b o, H b = some o → H2 b = some o := fun b o e => g b o (by rw [upd_ne (ne_of_none e hn0)]; exact e)
    refine ⟨.ref h'.objs.size, H2, I3, rfl, q H2 h'.objs.size zs gr hperm hsort hn0 (g _ _ upd_same) fun z' hz' => ?_⟩
    obtain ⟨i, i1, i2⟩ := idx z' hz'
    obtain ⟨vs, ⟨j, e, j1, j2, ev⟩, hH⟩ := qt z'.1 (List.mem_of_getElem? i1)
    have eij : i = j := (List.getElem?_inj (List.getElem?_eq_some_iff.mp i1).1 nd).mp (i1.trans j1.symm)
    subst eij
    have ee : e = z'.2 := Option.some.inj (j2.symm.trans i2)
    rw [ev, ee] at hH
    exact ⟨I.hok.fresh (Nat.le_of_lt (hG.above _ (List.mem_of_getElem? i1))), hH⟩
end
section
variable {α β : Type}
def putG (l : List (Int × α)) (k : Int) (x : α) : List (Int × α) := if (l.any fun e => decide (e.1 = k)) = true then l.map (fun e => if e.1 = k then (e.1, x) else e) else l ++ [(k, x)]
def mergeG (l : List (Int × α)) : List (Int × α) := l.foldl (fun acc e => putG acc e.1 e.2) []
theorem putG_ent {l : List (Int × V)} {k : Int} {v : V} : putK (l.map entI) (.inl k) v = (putG l k v).map entI := by
  have e : ((l.map entI).any fun kv => decide (kv.1 = (Sum.inl k : Key))) = l.any fun e => decide (e.1 = k) := by
    rw [List.any_map]
    congr 1
    funext e
    simp
  unfold putK putG
  rw [e]
  by_cases h : (l.any fun e => decide (e.1 = k)) = true
  · rw [if_pos h, if_pos h, List.map_map, List.map_map]
    refine List.map_congr_left fun e _ => ?_
    by_cases h2 : e.1 = k
    · simp [h2]
    · simp [h2]
  · rw [if_neg h, if_neg h, List.map_append]
    rfl
theorem mergeG_ent : ∀ (l : List (Int × V)) (acc : List (Int × V)), mergeK (acc.map entI) (l.map entI) = (l.foldl (fun acc e => putG acc e.1 e.2) acc).map entI
  | [], acc => rfl
  | e :: l, acc => by
    show mergeK (putK (acc.map entI) (.inl e.1) e.2) (l.map entI) = _
    rw [putG_ent, mergeG_ent l]
    rfl
def Rw (F : α → β → Prop) : List (Int × α) → List (Int × β) → Prop := Paired fun e r => e.1 = r.1 ∧ F e.2 r.2
theorem Rw.any {F : α → β → Prop} {l : List (Int × α)} {m : List (Int × β)} (h : Rw F l m) (k : Int) : (l.any fun e => decide (e.1 = k)) = m.any fun e => decide (e.1 = k) := by
  unfold Rw at h
  induction h with
  | nil => rfl
  | cons h _ ih => rw [List.any_cons, List.any_cons, ih, h.1]
theorem Rw.map {F : α → β → Prop} {l : List (Int × α)} {m : List (Int × β)} (h : Rw F l m) {k : Int} {x : α} {y : β} (f : F x y) : Rw F (l.map fun e => if e.1 = k then (e.1, x) else e) (m.map fun e => if e.1 = k then (e.1, y) else e) := by
  unfold Rw at h ⊢
  induction h with
  | nil => exact .nil
  | @cons a b l m h _ ih =>
    rw [List.map_cons, List.map_cons]
    refine .cons ?_ ih
    by_cases e : a.1 = k
    · rw [if_pos e, if_pos (h.1 ▸ e)]; exact ⟨h.1, f⟩
    · rw [if_neg e, if_neg (h.1 ▸ e)]; exact h
theorem Rw.app {F : α → β → Prop} {l : List (Int × α)} {m : List (Int × β)} (h : Rw F l m) {k : Int} {x : α} {y : β} (f : F x y) : Rw F (l ++ [(k, x)]) (m ++ [(k, y)]) := by
  unfold Rw at h ⊢
  induction h with
  | nil => exact .cons ⟨rfl, f⟩ .nil
  | cons h _ ih => exact .cons h ih
theorem Rw.put {F : α → β → Prop} {l : List (Int × α)} {m : List (Int × β)} (h : Rw F l m) {k : Int} {x : α} {y : β} (f : F x y) : Rw F (putG l k x) (putG m k y) := by
  unfold putG
  rw [h.any k]
  by_cases e : (m.any fun e => decide (e.1 = k)) = true
  · rw [if_pos e, if_pos e]; exact h.map f
  · rw [if_neg e, if_neg e]; exact h.app f
theorem Rw.merge {F : α → β → Prop} {l : List (Int × α)} {m : List (Int × β)} (h : Rw F l m) : ∀ {a : List (Int × α)} {b : List (Int × β)}, Rw F a b → Rw F (l.foldl (fun acc e => putG acc e.1 e.2) a) (m.foldl (fun acc e => putG acc e.1 e.2) b) := by
  unfold Rw at h
  induction h with
  | nil => intro a b x; exact x
  | @cons e r l m h _ ih =>
    intro a b x
    rw [List.foldl_cons, List.foldl_cons, ← h.1]
    exact ih (x.put h.2)
theorem keys_put (l : List (Int × α)) (k : Int) (x : α) : (putG l k x).map (·.1) = if k ∈ l.map (·.1) then l.map (·.1) else l.map (·.1) ++ [k] := by
  unfold putG
  have e : (l.any fun e => decide (e.1 = k)) = decide (k ∈ l.map (·.1)) := by
    rw [Bool.eq_iff_iff]
    simp only [List.any_eq_true, decide_eq_true_eq, List.mem_map]
  rw [e]
  by_cases h : k ∈ l.map (·.1)
  · rw [if_pos h, if_pos (by simpa using h), List.map_map]
    refine List.map_congr_left fun e _ => ?_
    by_cases h2 : e.1 = k <;> simp [h2]
  · rw [if_neg h, if_neg (by simpa using h), List.map_append]; rfl
theorem nodup_put {l : List (Int × α)} {k : Int} {x : α} (h : (l.map (·.1)).Nodup) : ((putG l k x).map (·.1)).Nodup := by
  rw [keys_put]
  by_cases e : k ∈ l.map (·.1)
  · rw [if_pos e]; exact h
  · rw [if_neg e]
    refine List.nodup_append.mpr ⟨h, List.pairwise_singleton _ _, fun a ha b hb => ?_⟩
    rw [List.mem_singleton.mp hb]
    exact fun z => e (z ▸ ha)
theorem nodup_merge (l : List (Int × α)) : ∀ {a : List (Int × α)}, (a.map (·.1)).Nodup → ((l.foldl (fun acc e => putG acc e.1 e.2) a).map (·.1)).Nodup := by
  induction l with
  | nil => intro a h; exact h
  | cons e l ih => intro a h; exact ih (nodup_put h)
theorem len_put (l : List (Int × α)) (k : Int) (x : α) : (putG l k x).length ≤ l.length + 1 := by
  unfold putG
  split
  · rw [List.length_map]; omega
  · rw [List.length_append]; simp
theorem len_merge (l : List (Int × α)) : ∀ (a : List (Int × α)), (l.foldl (fun acc e => putG acc e.1 e.2) a).length ≤ a.length + l.length := by
  induction l with
  | nil => intro a; simp
  | cons e l ih =>
    intro a
    have h1 := ih (putG a e.1 e.2)
    have h2 := len_put a e.1 e.2
    rw [List.foldl_cons, List.length_cons]
    omega
theorem key_inj {l : List (Int × α)} (h : (l.map (·.1)).Nodup) {a b : Int × α} (ha : a ∈ l) (hb : b ∈ l) (e : a.1 = b.1) : a = b := by
  obtain ⟨i, hi⟩ := List.mem_iff_getElem?.mp ha
  obtain ⟨j, hj⟩ := List.mem_iff_getElem?.mp hb
  have f1 : (l.map (·.1))[i]? = some a.1 := by rw [List.getElem?_map, hi]; rfl
  have f2 : (l.map (·.1))[j]? = some b.1 := by rw [List.getElem?_map, hj]; rfl
  have ej : i = j := (List.getElem?_inj (List.getElem?_eq_some_iff.mp f1).1 h).mp (by rw [f1, f2, e])
  subst ej
  rw [hi] at hj
  exact Option.some.inj hj
def sortG (l : List (Int × α)) : List (Int × α) := l.mergeSort fun a b => decide (a.1 ≤ b.1)
theorem sortG_perm (l : List (Int × α)) : (sortG l).Perm l := List.mergeSort_perm _ _
theorem sortG_le (l : List (Int × α)) : (sortG l).Pairwise fun a b => a.1 ≤ b.1 :=
  (List.pairwise_mergeSort (le := fun a b : Int × α => decide (a.1 ≤ b.1)) (by intro a b c; simp; omega) (by intro a b; simp; omega) l).imp (by simp)
theorem sortG_uniq {l m : List (Int × α)} (hn : (l.map (·.1)).Nodup) (hp : m.Perm l) (hs : m.Pairwise fun a b => a.1 ≤ b.1) : m = sortG l :=
  (hp.trans (sortG_perm l).symm).eq_of_pairwise (fun a b ha hb p q => key_inj hn (hp.mem_iff.mp ha) ((sortG_perm l).mem_iff.mp hb) (Int.le_antisymm p q)) hs (sortG_le l)
end
def rowsD : List D → Option (List (Int × D))
  | [] => some []
  | .tup [.int k, x] :: ds => (rowsD ds).map ((k, x) :: ·)
  | _ => none
def rowD (e : Int × D) : D := .tup [.int e.1, e.2]
def gItems (c : D) : Option D := (lsD c).bind fun ds => (rowsD ds).bind fun rs => if rs.length < 64 then some (.lst true ((sortG (mergeG rs)).map rowD)) else none
section
variable {K : PySem.W.Frag} {Hs H Hs' H' : Hp}
theorem rowsD_cons {d : D} {ds : List D} {rs : List (Int × D)} (h : rowsD (d :: ds) = some rs) : ∃ k x rs', d = .tup [.int k, x] ∧ rowsD ds = some rs' ∧ rs = (k, x) :: rs' := by
  unfold rowsD at h
  split at h
  · rename_i e; cases e
  · rename_i k x ds' e
    obtain ⟨rfl, rfl⟩ := List.cons.inj e
    obtain ⟨rs', h1, h2⟩ := two_map h
    exact ⟨k, x, rs', rfl, h1, h2.symm⟩
  · cases h
theorem rl_rows (s : ∀ a o, Hs a = some o → H a = some o) : ∀ {ds : List D} {xs : List V} {rs : List (Int × D)}, RL K Hs H xs ds [] → rowsD ds = some rs →
    ∃ (ps : List Addr) (ks : List (Int × V)), xs = ps.map V.ref ∧ Paired (fun p kv => SqT K H p [kV kv.1, kv.2]) ps (ks.map entI) ∧ Rw (fun v d => RL K Hs H [v] [d] []) ks rs
  | [], xs, rs, r, h => by
    simp only [rowsD, Option.some.injEq] at h
    subst h
    cases r
    exact ⟨[], [], rfl, .nil, .nil⟩
  | d :: ds, xs, rs, r, h => by
    obtain ⟨k, x, rs', rfl, h2, rfl⟩ := rowsD_cons h
    obtain ⟨v, vs, rfl⟩ : ∃ v vs, xs = v :: vs := by
      have := r.length
      cases xs with
      | nil => simp at this
      | cons v vs => exact ⟨v, vs, rfl⟩
    obtain ⟨B, C, e, r1, r2⟩ := r.un
    obtain ⟨rfl, rfl⟩ := List.append_eq_nil_iff.mp e.symm
    obtain ⟨ps, ks, rfl, e2, e3⟩ := rl_rows s r2 h2
    obtain ⟨a, ys, rfl, h3, h4⟩ := r1.tup_inv
    obtain ⟨u, us, rfl⟩ : ∃ u us, ys = u :: us := by
      have := h4.length
      cases ys with
      | nil => simp at this
      | cons v vs => exact ⟨v, vs, rfl⟩
    obtain ⟨B, C, e, r1, r3⟩ := h4.un
    obtain ⟨rfl, rfl⟩ := List.append_eq_nil_iff.mp e.symm
    obtain ⟨v, rfl, r4⟩ := r3.one
    rw [r1.int] at h3
    exact ⟨a :: ps, (k, v) :: ks, rfl, .cons (ext_t s h3) e2, .cons ⟨rfl, r4⟩ e3⟩
def rSI (K : PySem.W.Frag) : List V → Hp → VK → Prop := fun xs H Q => (fun xs H Q => ∃ (a : Addr) (ps : List Addr) (kvs : List (Key × V)), xs = [.ref a] ∧ SqL K H a (ps.map V.ref) ∧ Paired (fun p kv => SqT K H p [kV kv.1, kv.2]) ps kvs ∧
    ∀ p, H p = none → Q (.ref p) (upd H p (.dK (mergeK [] kvs)))) xs H fun x H1 => tyV K "dict" x H1 ∧ rItemsK x [] H1 fun y H2 => rSortK [y] H2 Q
theorem rl_out {F : Int × V → Int × D → Prop} (hF : ∀ e r, F e r → e.1 = r.1 ∧ RL K Hs H [e.2] [r.2] []) : ∀ {ps : List (Addr × Int × V)} {l : List ((Int × V) × (Int × D))}, l.map (·.1) = ps.map (·.2) → (∀ q ∈ l, F q.1 q.2) → (∀ z ∈ ps, Hs z.1 = some (.tup [.int z.2.1, z.2.2])) →
    RL K Hs H (ps.map fun z => V.ref z.1) (l.map fun q => rowD q.2) []
  | [], [], _, _, _ => .nil
  | [], q :: l, e, _, _ => by simp at e
  | z :: ps, [], e, _, _ => by simp at e
  | z :: ps, q :: l, e, h1, h2 => by
    simp only [List.map_cons, List.cons.injEq] at e
    have ih := rl_out hF e.2 (fun q hq => h1 q (List.mem_cons_of_mem _ hq)) (fun z hz => h2 z (List.mem_cons_of_mem _ hz))
    obtain ⟨f1, f2⟩ := hF _ _ (h1 q (List.mem_cons_self ..))
    have hz := h2 z (List.mem_cons_self ..)
    rw [← e.1, f1] at hz
    have : RL K Hs H [V.int q.2.1, q.1.2] [.int q.2.1, q.2.2] [] := .sc rfl f2
    simpa [rowD] using RL.tup (A := []) (SqT.of hz) this ih
theorem none_upd {a p : Addr} {o : HO} (h : upd H p o a = none) : H a = none ∧ a ≠ p := by
  by_cases e : a = p
  · subst e; rw [upd_same] at h; cases h
  · rw [upd_ne e] at h; exact ⟨h, e⟩
theorem cg_items : CaG K (rSI K) gItems := by
  intro Hs H v c B C d r o h Q k
  obtain ⟨ds, h1, h2⟩ := two_bind (γ := Nat) h
  obtain ⟨rs, h3, h4⟩ := two_bind (γ := Nat) h2
  by_cases hz : rs.length < 64
  · rw [if_pos hz] at h4
    cases h4
    obtain ⟨a, xs, rfl, h5, h6⟩ := r.lsItems o.sub h1
    obtain ⟨ps, ks, rfl, e2, e3⟩ := rl_rows o.sub h6 h3
    refine ⟨a, ps, ks.map entI, rfl, h5, e2, fun p1 hp1 => ?_⟩
    have em : mergeK [] (ks.map entI) = (mergeG ks).map entI := mergeG_ent ks []
    rw [em]
    refine ⟨.inr (.inr (.inl ⟨rfl, .inl ⟨_, upd_same⟩⟩)), p1, _, rfl, rfl, upd_same, fun p2 hp2 => ?_⟩
    have n12 := none_upd hp2
    have hlen : (mergeG ks).length < 64 := by
      have := len_merge ks []
      have e : ks.length = rs.length := Paired.length e3
      simp only [List.length_nil] at this
      unfold mergeG
      omega
    refine ⟨p2, p1, mergeG ks, rfl, upd_same, (by rw [upd_ne (fun z => n12.2 z.symm), upd_same]), hlen, fun H' l zs keep perm srt hl hl' hzs => ?_⟩
    have kH : ∀ b x, H b = some x → H' b = some x := fun b x e => keep b x (by
      rw [upd_ne (ne_of_none e n12.1), upd_ne (ne_of_none e hp1)]; exact e)
    have hl0 : H l = none := (none_upd (none_upd hl).1).1
    have hz0 : ∀ z ∈ zs, H z.1 = none := fun z hz => (none_upd (none_upd (hzs z hz).1).1).1
    have RW : Rw (fun v d => RL K Hs H [v] [d] []) (mergeG ks) (mergeG rs) := e3.merge .nil
    have hlr : (mergeG ks).length = (mergeG rs).length := Paired.length RW
    obtain ⟨qs, pq, eq⟩ := perm_lift (fun q : (Int × V) × (Int × D) => q.1) perm ((mergeG ks).zip (mergeG rs)) (List.map_fst_zip (by omega))
    have hq : ∀ q ∈ qs, q.1.1 = q.2.1 ∧ RL K Hs H [q.1.2] [q.2.2] [] := by
      intro q hq
      obtain ⟨j, hj⟩ := List.mem_iff_getElem?.mp (pq.mem_iff.mp hq)
      obtain ⟨j1, j2⟩ := List.getElem?_zip_eq_some.mp hj
      obtain ⟨y, y1, y2⟩ := DX.pget RW j2
      rw [j1] at y1
      cases y1
      exact y2
    have hp2' : (qs.map (·.2)).Perm (mergeG rs) := by
      have e := pq.map (·.2)
      rw [List.map_snd_zip (by omega)] at e
      exact e
    have hs2 : (qs.map (·.2)).Pairwise fun a b => a.1 ≤ b.1 := by
      rw [← eq, List.pairwise_map] at srt
      rw [List.pairwise_map]
      refine List.Pairwise.imp_of_mem (fun {x y} hx hy h => ?_) srt
      rw [← (hq x hx).1, ← (hq y hy).1]
      exact h
    have es := sortG_uniq (nodup_merge rs (a := []) List.Pairwise.nil) hp2' hs2
    have ed : (sortG (mergeG rs)).map rowD = qs.map fun q => rowD q.2 := by
      have : sortG (mergeG rs) = qs.map (·.2) := es.symm
      rw [this, List.map_map]
      rfl
    rw [ed] at k
    let Hs' : Hp := fun b => if b ∈ zs.map (·.1) then H' b else Hs b
    have inn : ∀ b, b ∈ zs.map (·.1) → H b = none ∧ ∃ us, H' b = some (.tup us) := fun b hb => by
      obtain ⟨z, hz, rfl⟩ := List.mem_map.mp hb
      exact ⟨hz0 z hz, _, (hzs z hz).2⟩
    have hsS : ∀ b x, Hs b = some x → Hs' b = some x := fun b x e => by
      show (if b ∈ zs.map (·.1) then H' b else Hs b) = some x
      rw [if_neg (fun hb => by have := (inn b hb).1; rw [o.sub _ _ e] at this; cases this)]; exact e
    have hsO : ∀ b, H b ≠ none → Hs b = none → Hs' b = none := fun b e n => by
      show (if b ∈ zs.map (·.1) then H' b else Hs b) = none
      rw [if_neg (fun hb => e (inn b hb).1)]; exact n
    have Hl : Hs' l = none := by
      show (if l ∈ zs.map (·.1) then H' l else Hs l) = none
      rw [if_neg (fun hb => by obtain ⟨us, e⟩ := (inn l hb).2; rw [hl'] at e; cases e)]
      cases e : Hs l with
      | none => rfl
      | some x => rw [o.sub _ _ e] at hl0; cases hl0
    refine k (.ref l) Hs' H' [l] ?_ ⟨?_, ?_, ?_, ?_⟩ ⟨hsS, fun b x e _ => kH b x e, ?_, ?_⟩
    · have rr : RL K Hs' H' (zs.map fun z => V.ref z.1) (qs.map fun q => rowD q.2) [] := by
        refine rl_out (F := fun e r => e.1 = r.1 ∧ RL K Hs' H' [e.2] [r.2] []) (fun _ _ h => h) eq (fun q hq' => ⟨(hq q hq').1, (hq q hq').2.mono hsS fun a x c => by simp at c⟩) fun z hz => ?_
        show (if z.1 ∈ zs.map (·.1) then H' z.1 else Hs z.1) = _
        rw [if_pos (List.mem_map.mpr ⟨z, hz, rfl⟩)]
        exact (hzs z hz).2
      simpa using RL.lstO (A := []) hl' rr RL.nil
    · intro b x e
      have e' : (if b ∈ zs.map (·.1) then H' b else Hs b) = some x := e
      by_cases hb : b ∈ zs.map (·.1)
      · rw [if_pos hb] at e'; exact e'
      · rw [if_neg hb] at e'; exact kH b x (o.sub _ _ e')
    · intro b
      have h1 := o.nd b
      have h2 := o.has b
      by_cases e : b = l
      · subst e
        have : (B ++ C).count b = 0 := by
          apply Classical.byContradiction
          intro hc
          exact h2 (by omega) hl0
        rw [List.cons_append, List.nil_append, List.count_cons_self]
        omega
      · rw [List.cons_append, List.nil_append, List.count_cons_of_ne (fun z => e z.symm)]
        exact h1
    · intro b hb
      by_cases e : b = l
      · subst e; exact Hl
      · rw [List.cons_append, List.nil_append, List.count_cons_of_ne (fun z => e z.symm)] at hb
        exact hsO b (o.has b hb) (o.off b hb)
    · intro b hb
      by_cases e : b = l
      · subst e; rw [hl']; simp
      · rw [List.cons_append, List.nil_append, List.count_cons_of_ne (fun z => e z.symm)] at hb
        have := o.has b hb
        cases e : H b with
        | none => exact absurd e this
        | some x => rw [kH b x e]; simp
    · intro b x e n
      have e' : (if b ∈ zs.map (·.1) then H' b else Hs b) = some x := e
      by_cases hb : b ∈ zs.map (·.1)
      · exact .inr (inn b hb).1
      · rw [if_neg hb, n] at e'; cases e'
    · intro b hb
      have : b = l := by
        apply Classical.byContradiction
        intro z
        rw [List.count_cons_of_ne (fun y => z y.symm)] at hb
        simp at hb
      subst this
      exact .inr hl0
  · rw [if_neg hz] at h4; cases h4
theorem ie_items {X : Cx} {W : Wh} {a : Expr} {m : Exp} {p pd q1 q2 : Pos} {pos : Pos} (hc : X.calm = true) (hs : X.mg "sorted" = none) (hd : X.mg "dict" = none) (ha : IE X W a m) (hg : Gl X "sorted" := by rfl) (hgd : Gl X "dict" := by rfl)
    (he : starEach (a :: []) X.env = (false, eval a X.env) :: starEach [] X.env := by rfl) (hpl : (backTo q2 (starEach [] X.env)).any (·.1) = false := by rfl) (hpl2 : (backTo pos (starEach [] X.env)).any (·.1) = false := by rfl)
    {o : Expr} (ho : o = .Call (.Attribute (.Call (.Name "dict" pd) [a] [] q2) "items" q1) [] [] q2') (he2 : starEach (o :: []) X.env = (false, eval o X.env) :: starEach [] X.env := by rfl)
    (hbase : attributeBase (.Call (.Name "dict" pd) [a] [] q2) "items" X.env (eval (.Call (.Name "dict" pd) [a] [] q2) X.env) = eval (.Call (.Name "dict" pd) [a] [] q2) X.env := by rfl) (hline : (q1.endLine == q2'.line) = true := by rfl) :
    IE X W (.Call (.Name "sorted" p) [o] [] pos) (eG1 gItems m) := by
  subst ho
  obtain ⟨t, h1, h2⟩ := ha
  refine ⟨tCB (rSI X.K) (tCons t tNil), ?_, ev_g1 cg_items h2⟩
  exact (show PE X _ (tCB rSortK (tCons (tBM0 X.K "dict" rItemsK (tCB _ (tCons t tNil))) tNil)) from
    pe_callB (cr_sortedK hc) hg hs (by decide +kernel) (pa_cons (pe_bm0 PySem.F.plainAttrs_dict PySem.F.slot_dict_items PySem.F.type_dict_items mt_itemsK (pe_callTy (call_dictP hc) hgd hd (by decide +kernel) (pa_cons h1 pa_nil he) (by decide) (by decide) he hpl) hbase hline) pa_nil he2) (by decide) (by decide) he2 hpl2)
end
end Fl
namespace Fl
open PySem PySem.Spec PyProof.Rows L2
section
variable {K : PySem.W.Frag} {W : Wh} {σ σ' : L2.St} {env env' : Env} {F A A' B C : List Addr} {Hs H Hs' H' Hs0 : Hp} {t ta tb : TE} {m ma mb : Exp} {ms : Arg}
/-- a built-in of things that tells a new thing -/
def CaN (K : PySem.W.Frag) (r : List V → Hp → VK → Prop) (f : List D → Option D) : Prop := ∀ Hs H vs ds B C d, RL K Hs H vs ds B → Ok Hs H (B ++ C) → f ds = some d → ∀ Q : VK,
  (∀ v' Hs' H' B', RL K Hs' H' [v'] [d] B' → Ok Hs' H' (B' ++ (B ++ C)) → Go Hs H [] Hs' H' B' → Q v' H') → r vs H Q
theorem ev_bn {r : List V → Hp → VK → Prop} {f : List D → Option D} {ta : TA} (hr : CaN K r f) (e : EvA K W ta ms) : EvI K W (tCB r ta) (eB f ms) := by
  intro σ env F Hs H A rr o
  unfold eB
  cases h1 : ms env with
  | no => trivial
  | ex x e' => exact fun k Q => e.ex rr o h1 k _
  | ok p =>
    obtain ⟨ds, env1⟩ := p
    simp only [Res.bind_ok]
    cases h3 : f ds with
    | none => trivial
    | some d =>
      intro Q k
      refine e.ok rr o h1 fun vs Hs2 H2 B1 A2 rx r2 o2 g2 => ?_
      refine hr Hs2 H2 vs ds B1 (F ++ A2) d rx (o2.less fun a => by simp only [List.count_append]; omega) h3 Q fun v' Hs3 H3 B3 r3 o3 g3 => ?_
      refine k v' Hs3 H3 B3 A2 r3 (r2.mono g3.hs fun a o _ h => g3.keep a o h (by simp)) (o3.less fun a => by simp only [List.count_append]; omega) ?_
      have g4 : Go Hs2 H2 (B1 ++ A2) Hs3 H3 ((B1 ++ A2) ++ B3) := (g3.frame (F := B1 ++ A2)).more fun a c => by simpa using c
      exact (g2.trans g4).less fun a c => by simp only [List.count_append] at *; omega
def rLR1 : List V → Hp → VK → Prop := fun xs H Q => match xs with
  | [x] => ∃ n, x = .int n ∧ RgOk 0 n ∧ ∀ q, H q = none → Q (.ref q) (upd H q (.lst (rgV 0 n)))
  | _ => False
def gLR1 : List D → Option D
  | [.int n] => if -1000000 ≤ n ∧ n ≤ 1000000 then some (.lst true (rangeD 0 n.toNat)) else none
  | _ => none
def gLR2 : List D → Option D
  | [.int a, .int b] => if -1000000 ≤ a ∧ a ≤ 1000000 ∧ -1000000 ≤ b ∧ b ≤ 1000000 then some (.lst true (rangeD a (b - a).toNat)) else none
  | _ => none
theorem rl_rg (a : Int) (n : Nat) : RL K Hs H ((List.range n).map fun i => V.int (a + (i : Nat))) (rangeD a n) [] := by
  unfold rangeD
  generalize List.range n = l
  induction l with
  | nil => exact .nil
  | cons x l ih => exact .sc rfl ih
theorem can_lr1 : CaN K rLR1 gLR1 := by
  intro Hs H vs ds B C d r o h Q k
  unfold gLR1 at h
  split at h
  · rename_i n
    split at h
    · rename_i hn
      cases h
      obtain ⟨v, rfl, rv⟩ := r.one
      refine ⟨n, rv.int, ⟨by omega, by omega, by omega, by omega, by omega⟩, ?_⟩
      have e : rgV 0 n = (List.range n.toNat).map fun i => V.int (0 + (i : Nat)) := by unfold rgV; rw [show n - 0 = n from by omega]
      rw [e]
      exact new_lst (rl_rg 0 n.toNat) o k
    · cases h
  · cases h
def iRvR (ms : Arg) : Itm := fun env => (ms env).bind fun p => match p.1 with
  | [.int n] => if -1000000 ≤ n ∧ n ≤ 1000000 then .ok ((rangeD 0 n.toNat).reverse, p.2) else .no
  | _ => .no
end
section
variable {X : Cx} {W : Wh} {a b tg : Expr} {m ma mb : Exp} {ms : Arg} {p q pos p2 : Pos}
theorem ie_lr1 (hc : X.calm = true) (hl : X.mg "list" = none) (hr : X.mg "range" = none) (ha : IE X W a m) (hg : Gl X "list" := by rfl) (hgr : Gl X "range" := by rfl) (na : starEach [a] X.env = (false, eval a X.env) :: starEach [] X.env := by rfl)
    (nb : starEach [.Call (.Name "range" q) [a] [] p2] X.env = (false, eval (.Call (.Name "range" q) [a] [] p2) X.env) :: starEach [] X.env := by rfl) : IE X W (.Call (.Name "list" p) [.Call (.Name "range" q) [a] [] p2] [] pos) (eB gLR1 (aC m aN)) := by
  obtain ⟨t, h1, h2⟩ := ha
  exact ⟨tCB rLR1 (tCons t tNil), (show PE X _ (tLstRg (tRg1 t)) from pe_listRg hc hg hl (prg_1 hgr hr h1 na) nb), ev_bn can_lr1 (ea_cons h2 ea_nil)⟩
end
section
variable {env : Env} {d : D} {n a b : Int}
@[simp] theorem gLR1_app : gLR1 [.int n] = if -1000000 ≤ n ∧ n ≤ 1000000 then some (.lst true (rangeD 0 n.toNat)) else none := rfl
@[simp] theorem gLR2_app : gLR2 [.int a, .int b] = if -1000000 ≤ a ∧ a ≤ 1000000 ∧ -1000000 ≤ b ∧ b ≤ 1000000 then some (.lst true (rangeD a (b - a).toNat)) else none := rfl
@[simp] theorem iRvR_app {ms : Arg} : iRvR ms env = (ms env).bind fun p => match p.1 with
  | [.int n] => if -1000000 ≤ n ∧ n ≤ 1000000 then .ok ((rangeD 0 n.toNat).reverse, p.2) else .no
  | _ => .no := rfl
@[simp] theorem rowsD_nil : rowsD [] = some [] := by simp [rowsD]
@[simp] theorem rowsD_con {k : Int} {x : D} {ds : List D} : rowsD (.tup [.int k, x] :: ds) = (rowsD ds).map ((k, x) :: ·) := by simp [rowsD]
@[simp] theorem gItems_lst {o : Bool} {ds : List D} : gItems (.lst o ds) = (rowsD ds).bind fun rs => if rs.length < 64 then some (.lst true ((sortG (mergeG rs)).map rowD)) else none := rfl
end
end Fl
namespace Fl
open PySem
/-- what a plain function tells: nothing known, a value, an exception -/
inductive M (α : Type) where
  | no | ok (a : α) | ex (c : Str) (ds : List D)
namespace M
variable {α β γ δ : Type}
def bind (x : M α) (f : α → M β) : M β := match x with
  | .no => .no
  | .ok a => f a
  | .ex c ds => .ex c ds
/-- what tells two things -/
def bind2 (x : M (α × β)) (f : α → β → M γ) : M γ := match x with
  | .no => .no
  | .ok p => f p.1 p.2
  | .ex c ds => .ex c ds
@[simp] theorem ok_bind2 (a : α) (b : β) (f : α → β → M γ) : (ok (a, b)).bind2 f = f a b := rfl
@[simp] theorem no_bind2 (f : α → β → M γ) : (no : M (α × β)).bind2 f = .no := rfl
@[simp] theorem ex_bind2 (c : Str) (ds : List D) (f : α → β → M γ) : (ex c ds : M (α × β)).bind2 f = .ex c ds := rfl
/-- a call out of which nothing that is raised is followed -/
def call (x : M α) : M α := match x with
  | .ok a => .ok a
  | _ => .no
@[simp] theorem ok_bind (a : α) (f : α → M β) : (ok a).bind f = f a := rfl
@[simp] theorem no_bind (f : α → M β) : (no : M α).bind f = .no := rfl
@[simp] theorem ex_bind (c : Str) (ds : List D) (f : α → M β) : (ex c ds : M α).bind f = .ex c ds := rfl
@[simp] theorem call_ok (a : α) : (ok a).call = ok a := rfl
@[simp] theorem call_no : (no : M α).call = no := rfl
@[simp] theorem call_ex (c : Str) (ds : List D) : (ex c ds : M α).call = no := rfl
@[simp] theorem bind_bind (x : M α) (f : α → M β) (g : β → M γ) : (x.bind f).bind g = x.bind fun a => (f a).bind g := by cases x <;> rfl
@[simp] theorem bind2_bind (x : M (α × β)) (f : α → β → M γ) (g : γ → M δ) : (x.bind2 f).bind g = x.bind2 fun a b => (f a b).bind g := by cases x <;> rfl
@[simp] theorem bind_bind2 (x : M α) (f : α → M (β × γ)) (g : β → γ → M δ) : (x.bind f).bind2 g = x.bind fun a => (f a).bind2 g := by cases x <;> rfl
@[simp] theorem bind_ok (x : M α) : (x.bind fun a => ok a) = x := by cases x <;> rfl
@[simp] theorem ok_inj {a b : α} : (ok a = ok b) = (a = b) := by simp
theorem of_call2 {x : M (α × β)} {f : α → β → M γ} (h : x.call.bind2 f ≠ .no) : ∃ a, x = .ok a := by
  cases x with
  | no => exact absurd rfl h
  | ok a => exact ⟨a, rfl⟩
  | ex c ds => exact absurd rfl h
theorem of_call {x : M α} {f : α → M β} (h : x.call.bind f ≠ .no) : ∃ a, x = .ok a := by
  cases x with
  | no => exact absurd rfl h
  | ok a => exact ⟨a, rfl⟩
  | ex c ds => exact absurd rfl h
end M
/-- a type whose values are things of Python; enc: as a tree, all of it shared -/
class Ty (α : Type) where
  enc : α → D
  can : ∀ a, sh (enc a) = enc a
  kind : ∀ a, kindD (enc a) ≠ none
open Ty (enc)
/-- its things hold no list -/
class Flat (α : Type) [Ty α] where
  flat : ∀ a : α, clean (enc a) = true
/-- its things are never None -/
class NN (α : Type) [Ty α] where
  nn : ∀ a : α, isNon (enc a) = some false
theorem shLmap (ds : List D) : shL ds = ds.map sh := by induction ds with
  | nil => rfl
  | cons d ds ih => simp [ih]
theorem kindSh (d : D) : kindD (sh d) = kindD d := by cases d <;> simp [sh, kindD]
mutual
theorem clean_sh : ∀ d : D, clean (sh d) = true → clean d = true ∧ own d = false ∧ sh d = d
  | .non, _ => ⟨rfl, rfl, rfl⟩
  | .bl _, _ => ⟨rfl, rfl, rfl⟩
  | .int _, _ => ⟨rfl, rfl, rfl⟩
  | .str _, _ => ⟨rfl, rfl, rfl⟩
  | .tup ds, h => by
    simp [sh, clean] at h
    obtain ⟨h1, h2, h3⟩ := cleanL_sh ds h
    exact ⟨by simpa [clean] using h1, by simpa using h2, by simp [sh, h3]⟩
  | .lst o ds, h => by simp [sh, clean] at h
  | .frz ds, h => by simp [sh, clean] at h
  | .dct o ks ds, h => by simp [sh, clean] at h
  | .obj o c ns ds, h => by simp [sh, clean] at h
  | .exo _ _, h => by simp [sh, clean] at h
  | .dead, h => by simp [sh, clean] at h
theorem cleanL_sh : ∀ ds : List D, cleanL (shL ds) = true → cleanL ds = true ∧ ownL ds = false ∧ shL ds = ds
  | [], _ => ⟨rfl, rfl, rfl⟩
  | d :: ds, h => by
    simp [cleanL] at h
    obtain ⟨h1, h2, h3⟩ := clean_sh d h.1
    obtain ⟨g1, g2, g3⟩ := cleanL_sh ds h.2
    exact ⟨by simp [cleanL, h1, g1], by simp [h2, g2], by simp [h3, g3]⟩
end
theorem shsh (d : D) : sh (sh d) = sh d := by
  have : ∀ d : D, sh (sh d) = sh d := fun d => sh_sh' d
  exact this d
where
  sh_sh' : ∀ d : D, sh (sh d) = sh d
  | .non => rfl
  | .bl _ => rfl
  | .int _ => rfl
  | .str _ => rfl
  | .tup ds => by simp [sh, shL_sh' ds]
  | .lst _ ds => by simp [sh, shL_sh' ds]
  | .frz ds => by simp [sh, shL_sh' ds]
  | .dct _ _ ds => by simp [sh, shL_sh' ds]
  | .obj _ _ _ ds => by simp [sh, shL_sh' ds]
  | .exo _ _ => rfl
  | .dead => rfl
  shL_sh' : ∀ ds : List D, shL (shL ds) = shL ds
  | [] => rfl
  | d :: ds => by simp [sh_sh' d, shL_sh' ds]
theorem shLshL (ds : List D) : shL (shL ds) = shL ds := shsh.shL_sh' ds
instance : Ty Int := ⟨.int, fun _ => rfl, fun _ => by simp⟩
instance : Ty Bool := ⟨.bl, fun _ => rfl, fun _ => by simp⟩
instance : Ty Str := ⟨.str, fun _ => rfl, fun _ => by simp⟩
instance : Ty Unit := ⟨fun _ => .non, fun _ => rfl, fun _ => by simp⟩
instance : Ty Rat := ⟨fun q => .tup [.int q.num, .int (q.den : Int)], fun _ => rfl, fun _ => by simp⟩
instance {α : Type} [Ty α] : Ty (List α) := ⟨fun xs => .lst false (xs.map enc), fun xs => by simp [sh, shLmap, Ty.can], fun _ => by simp⟩
instance {α : Type} [Ty α] : Ty (Option α) := ⟨fun x => match x with | none => .non | some a => enc a, fun x => by cases x <;> simp [Ty.can], fun x => by cases x <;> simp [Ty.kind]⟩
/-- tuples of Python -/
structure T1 (α : Type) where
  a : α
deriving DecidableEq
structure T2 (α β : Type) where
  a : α
  b : β
deriving DecidableEq
structure T3 (α β γ : Type) where
  a : α
  b : β
  c : γ
deriving DecidableEq
structure T4 (α β γ δ : Type) where
  a : α
  b : β
  c : γ
  d : δ
deriving DecidableEq
/-- lists that are written with their items, of several types -/
structure F2 (α β : Type) where
  a : α
  b : β
deriving DecidableEq
structure F3 (α β γ : Type) where
  a : α
  b : β
  c : γ
deriving DecidableEq
structure F4 (α β γ δ : Type) where
  a : α
  b : β
  c : γ
  d : δ
deriving DecidableEq
/-- the script -/
structure Scr where
  l : List Int
section
variable {α β γ δ : Type} [Ty α] [Ty β] [Ty γ] [Ty δ]
instance : Ty (T1 α) := ⟨fun t => .tup [enc t.a], fun t => by simp [sh, Ty.can], fun _ => by simp⟩
instance : Ty (T2 α β) := ⟨fun t => .tup [enc t.a, enc t.b], fun t => by simp [sh, Ty.can], fun _ => by simp⟩
instance : Ty (T3 α β γ) := ⟨fun t => .tup [enc t.a, enc t.b, enc t.c], fun t => by simp [sh, Ty.can], fun _ => by simp⟩
instance : Ty (T4 α β γ δ) := ⟨fun t => .tup [enc t.a, enc t.b, enc t.c, enc t.d], fun t => by simp [sh, Ty.can], fun _ => by simp⟩
instance : Ty (F2 α β) := ⟨fun t => .lst false [enc t.a, enc t.b], fun t => by simp [sh, Ty.can], fun _ => by simp⟩
instance : Ty (F3 α β γ) := ⟨fun t => .lst false [enc t.a, enc t.b, enc t.c], fun t => by simp [sh, Ty.can], fun _ => by simp⟩
instance : Ty (F4 α β γ δ) := ⟨fun t => .lst false [enc t.a, enc t.b, enc t.c, enc t.d], fun t => by simp [sh, Ty.can], fun _ => by simp⟩
instance : Ty Scr := ⟨fun s => .frz (s.l.map .int), fun s => by simp [sh, shLmap], fun _ => by simp⟩
@[simp] theorem enc_int (a : Int) : enc a = .int a := rfl
@[simp] theorem enc_bl (a : Bool) : enc a = .bl a := rfl
@[simp] theorem enc_str (a : Str) : enc a = .str a := rfl
@[simp] theorem enc_unit (a : Unit) : enc a = .non := rfl
theorem enc_list (xs : List α) : enc xs = .lst false (xs.map enc) := rfl
instance : Flat Int := ⟨fun _ => rfl⟩
instance : Flat Bool := ⟨fun _ => rfl⟩
instance : Flat Str := ⟨fun _ => rfl⟩
instance : Flat Unit := ⟨fun _ => rfl⟩
instance : Flat Rat := ⟨fun _ => rfl⟩
instance [Flat α] : Flat (Option α) := ⟨fun x => by cases x <;> simp [enc, clean]; exact Flat.flat _⟩
instance [Flat α] [Flat β] : Flat (T2 α β) := ⟨fun t => by simp [enc, clean, cleanL]; exact ⟨Flat.flat t.a, Flat.flat t.b⟩⟩
instance [Flat α] [Flat β] [Flat γ] : Flat (T3 α β γ) := ⟨fun t => by simp [enc, clean, cleanL]; exact ⟨Flat.flat t.a, Flat.flat t.b, Flat.flat t.c⟩⟩
instance [Flat α] [Flat β] [Flat γ] [Flat δ] : Flat (T4 α β γ δ) := ⟨fun t => by simp [enc, clean, cleanL]; exact ⟨Flat.flat t.a, Flat.flat t.b, Flat.flat t.c, Flat.flat t.d⟩⟩
instance : NN Int := ⟨fun _ => rfl⟩
instance : NN Bool := ⟨fun _ => rfl⟩
instance : NN Str := ⟨fun _ => rfl⟩
instance : NN Rat := ⟨fun _ => rfl⟩
instance : NN (List α) := ⟨fun _ => rfl⟩
instance : NN (T2 α β) := ⟨fun _ => rfl⟩
instance : NN (T3 α β γ) := ⟨fun _ => rfl⟩
instance : NN (T4 α β γ δ) := ⟨fun _ => rfl⟩
instance : NN (F2 α β) := ⟨fun _ => rfl⟩
instance : NN (F3 α β γ) := ⟨fun _ => rfl⟩
instance : NN (F4 α β γ δ) := ⟨fun _ => rfl⟩
end
/-- modes: anything; a list of its own; all its lists its own; a tuple the last of which is no list or its own -/
inductive Md where
  | any | top | cl | tl
def isOL : D → Bool
  | .lst o _ => o
  | .dct o _ _ => o
  | _ => false
def isOI : D → Bool
  | .lst o _ => o
  | .dct o _ _ => o
  | _ => true
def tlL : List D → Bool
  | [] => true
  | [d] => isOI d
  | _ :: d :: ds => tlL (d :: ds)
def isTl : D → Bool
  | .tup ds => tlL ds
  | d => isOI d
theorem clean_oi : ∀ d : D, clean d = true → isOI d = true := fun d h => by
  cases d <;> simp [isOI]
  all_goals (simp [clean] at h; exact h.1)
def mdB : Md → D → Bool
  | .any, _ => true
  | .tl, d => isTl d
  | .top, d => isOL d
  | .cl, d => clean d
def Is (x : D) (μ : Md) (d : D) : Prop := sh d = x ∧ mdB μ d = true
abbrev Ctx := List (D → Prop)
def Tp : D → Prop := fun _ => True
def Sat : Ctx → Fl.Env → Prop
  | [], [] => True
  | P :: Γ, d :: e => P d ∧ Sat Γ e
  | _, _ => False
theorem Is.any {x : D} {μ : Md} {d : D} (h : Is x μ d) : Is x .any d := ⟨h.1, rfl⟩
theorem Is.dead {α : Type} [Ty α] {a : α} {μ : Md} {d : D} (h : Is (enc a) μ d) : isDead d = false := by
  have h2 := Ty.kind a
  rw [← h.1, kindSh] at h2
  cases d <;> first | rfl | exact absurd rfl h2
theorem Is.flat {α : Type} [Ty α] [Flat α] {a : α} {μ : Md} {d : D} (h : Is (enc a) μ d) : d = enc a ∧ clean d = true ∧ own d = false := by
  obtain ⟨h1, h2, h3⟩ := clean_sh d (by rw [h.1]; exact Flat.flat a)
  exact ⟨h3.symm.trans h.1, h1, h2⟩
theorem Is.enc {α : Type} [Ty α] (a : α) : Is (enc a) .any (enc a) := ⟨Ty.can a, rfl⟩
theorem is_flat {α : Type} [Ty α] [Flat α] (a : α) : Is (enc a) .cl (enc a) := ⟨Ty.can a, Flat.flat a⟩
theorem Sat.len : ∀ {Γ : Ctx} {env : Fl.Env}, Sat Γ env → env.length = Γ.length
  | [], [], _ => rfl
  | P :: Γ, d :: e, h => congrArg Nat.succ (Sat.len h.2)
  | [], _ :: _, h => h.elim
  | _ :: _, [], h => h.elim
theorem Sat.at : ∀ {Γ : Ctx} {env : Fl.Env} {i : Nat} {P : D → Prop}, Sat Γ env → Γ[i]? = some P → ∃ d, env[i]? = some d ∧ P d
  | P :: Γ, d :: e, 0, Q, h, hi => by simp at hi; subst hi; exact ⟨d, rfl, h.1⟩
  | P :: Γ, d :: e, i + 1, Q, h, hi => by
    obtain ⟨d', h1, h2⟩ := Sat.at (i := i) h.2 (by simpa using hi)
    exact ⟨d', by simpa using h1, h2⟩
  | [], [], i, Q, h, hi => by simp at hi
  | [], _ :: _, i, Q, h, hi => h.elim
  | _ :: _, [], i, Q, h, hi => h.elim
theorem Sat.set : ∀ {Γ : Ctx} {env : Fl.Env} {i : Nat} {P : D → Prop} {d : D}, Sat Γ env → P d → Sat (Γ.set i P) (env.set i d)
  | P :: Γ, d :: e, 0, Q, d', h, hd => ⟨hd, h.2⟩
  | P :: Γ, d :: e, i + 1, Q, d', h, hd => ⟨h.1, Sat.set h.2 hd⟩
  | [], [], i, Q, d', h, hd => trivial
  | [], _ :: _, i, Q, _, h, hi => h.elim
  | _ :: _, [], i, Q, _, h, hi => h.elim
theorem Sat.setP : ∀ {Γ : Ctx} {env : Fl.Env} {i : Nat} {P : D → Prop} {d : D}, Sat Γ env → env[i]? = some d → P d → Sat (Γ.set i P) env
  | P :: Γ, d :: e, 0, Q, d', h, hi, hd => by simp at hi; subst hi; exact ⟨hd, h.2⟩
  | P :: Γ, d :: e, i + 1, Q, d', h, hi, hd => ⟨h.1, Sat.setP h.2 (by simpa using hi) hd⟩
  | [], [], i, Q, d', h, hi, hd => trivial
  | [], _ :: _, i, Q, _, h, _, hi => h.elim
  | _ :: _, [], i, Q, _, h, _, hi => h.elim
/-- a weaker context -/
def Wk : Ctx → Ctx → Prop
  | [], [] => True
  | P :: Γ, Q :: Δ => (∀ d, P d → Q d) ∧ Wk Γ Δ
  | _, _ => False
theorem wk_nil : Wk [] [] := trivial
theorem wk_cons {P Q : D → Prop} {Γ Δ : Ctx} (h : ∀ d, P d → Q d) (hs : Wk Γ Δ) : Wk (P :: Γ) (Q :: Δ) := ⟨h, hs⟩
theorem wk_refl : ∀ {Γ : Ctx}, Wk Γ Γ
  | [] => trivial
  | _ :: _ => ⟨fun _ h => h, wk_refl⟩
theorem wk_i {P : D → Prop} : ∀ d, P d → P d := fun _ h => h
theorem wk_t {P : D → Prop} : ∀ d, P d → Tp d := fun _ _ => trivial
theorem wk_a {x : D} {μ : Md} : ∀ d, Is x μ d → Is x .any d := fun _ h => h.any
theorem clean_isOL {α : Type} [Ty α] {xs : List α} {d : D} (h : sh d = enc xs) (h2 : clean d = true) : isOL d = true := by
  cases d <;> simp [enc, sh] at h
  simp [clean] at h2; exact h2.1
theorem wk_ct {α : Type} [Ty α] {xs : List α} : ∀ d, Is (enc xs) .cl d → Is (enc xs) .top d := fun d h => ⟨h.1, clean_isOL h.1 h.2⟩
theorem Wk.sat : ∀ {Γ Δ : Ctx} {env : Fl.Env}, Wk Γ Δ → Sat Γ env → Sat Δ env
  | [], [], [], _, _ => trivial
  | P :: Γ, Q :: Δ, d :: e, w, h => ⟨w.1 d h.1, Wk.sat w.2 h.2⟩
  | [], [], _ :: _, _, h => h.elim
  | [], _ :: _, _, w, _ => w.elim
  | _ :: _, [], _, w, _ => w.elim
  | _ :: _, _ :: _, [], _, h => h.elim
end Fl
namespace Fl
open PySem
open Ty (enc)
variable {β : Type}
abbrev XP := Fl.Env → Prop
def xT : XP := fun _ => True
def KE (X : XP) (Γ : Ctx) (m : Exp) (w : M β) (Ψ : D → Md → Ctx → M β → Prop) : Prop := ∀ env, Sat Γ env → w ≠ .no →
  (∃ d e x μ Γ', m env = .ok (d, e) ∧ Is x μ d ∧ Sat Γ' e ∧ Ψ x μ Γ' w) ∨ (∃ c es e, m env = .ex (.exo c es) e ∧ w = .ex c (shL es) ∧ X e)
def KB (X : XP) (Γ : Ctx) (m : Tst) (w : M β) (Ψ : Bool → Ctx → M β → Prop) : Prop := ∀ env, Sat Γ env → w ≠ .no →
  (∃ b e Γ', m env = .ok (b, e) ∧ Sat Γ' e ∧ Ψ b Γ' w) ∨ (∃ c es e, m env = .ex (.exo c es) e ∧ w = .ex c (shL es) ∧ X e)
/-- arguments: each by its tree and its mode -/
abbrev Ags := List (D × Md)
def SatA : Ags → List D → Prop
  | [], [] => True
  | a :: as, d :: ds => Is a.1 a.2 d ∧ SatA as ds
  | _, _ => False
theorem SatA.sh : ∀ {as : Ags} {ds : List D}, SatA as ds → shL ds = as.map Prod.fst
  | [], [], _ => rfl
  | a :: as, d :: ds, h => by simp [h.1.1, SatA.sh h.2]
  | [], _ :: _, h => h.elim
  | _ :: _, [], h => h.elim
theorem SatA.len : ∀ {as : Ags} {ds : List D}, SatA as ds → ds.length = as.length
  | [], [], _ => rfl
  | a :: as, d :: ds, h => congrArg Nat.succ (SatA.len h.2)
  | [], _ :: _, h => h.elim
  | _ :: _, [], h => h.elim
def KA (X : XP) (Γ : Ctx) (m : Arg) (w : M β) (Ψ : Ags → Ctx → M β → Prop) : Prop := ∀ env, Sat Γ env → w ≠ .no →
  (∃ ds e as Γ', m env = .ok (ds, e) ∧ SatA as ds ∧ Sat Γ' e ∧ Ψ as Γ' w) ∨ (∃ c es e, m env = .ex (.exo c es) e ∧ w = .ex c (shL es) ∧ X e)
/-- what is walked -/
def KI (X : XP) (Γ : Ctx) (m : Itm) (w : M β) (Ψ : List D → Ctx → M β → Prop) : Prop := ∀ env, Sat Γ env → w ≠ .no →
  (∃ ds e Γ', m env = .ok (ds, e) ∧ Sat Γ' e ∧ Ψ (shL ds) Γ' w) ∨ (∃ c es e, m env = .ex (.exo c es) e ∧ w = .ex c (shL es) ∧ X e)
section
variable {X : XP} {Γ : Ctx} {w : M β} {Ψ : D → Md → Ctx → M β → Prop} {ΨB : Bool → Ctx → M β → Prop} {ΨA : Ags → Ctx → M β → Prop} {m ma mb mc : Exp} {ms : Arg} {b c : Tst}
theorem ke_c {α : Type} [Ty α] [Flat α] {d : D} {a : α} (hd : d = enc a) (h : Ψ (enc a) .cl Γ w) : KE X Γ (eC d) w Ψ := fun env s _ => .inl ⟨d, env, enc a, .cl, Γ, rfl, hd ▸ is_flat a, s, h⟩
theorem ke_v {α : Type} [Ty α] {a : α} {μ : Md} (i : Nat) (hi : Γ[i]? = some (Is (enc a) μ)) (h : Ψ (enc a) .any (Γ.set i (Is (enc a) .any)) w) : KE X Γ (eV i) w Ψ := fun env s _ => by
  obtain ⟨d, e1, e2⟩ := s.at hi
  refine .inl ?_
  unfold eV
  rw [e1]
  simp only [e2.dead, Bool.false_eq_true, if_false]
  cases ho : own d with
  | true => exact ⟨_, _, enc a, .any, _, rfl, ⟨by rw [shsh]; exact e2.1, rfl⟩, s.set (P := Is (enc a) .any) ⟨by rw [shsh]; exact e2.1, rfl⟩, h⟩
  | false => exact ⟨_, _, enc a, .any, _, rfl, e2.any, s.setP e1 e2.any, h⟩
/-- a name whose thing nobody changes any more -/
theorem ke_va {α : Type} [Ty α] {a : α} (i : Nat) (hi : Γ[i]? = some (Is (enc a) .any)) (h : Ψ (enc a) .any Γ w) : KE X Γ (eV i) w Ψ := fun env s _ => by
  obtain ⟨d, e1, e2⟩ := s.at hi
  refine .inl ?_
  unfold eV
  rw [e1]
  simp only [e2.dead, Bool.false_eq_true, if_false]
  cases ho : own d with
  | true =>
    have hs : Sat (Γ.set i (Is (enc a) .any)) (env.set i (sh d)) := s.set (P := Is (enc a) .any) ⟨by rw [shsh]; exact e2.1, rfl⟩
    have : Γ.set i (Is (enc a) .any) = Γ := by
      apply List.ext_getElem?
      intro j
      by_cases e : i = j
      · subst e; rw [List.getElem?_set_self (List.getElem?_eq_some_iff.mp hi).1, hi]
      · rw [List.getElem?_set_ne e]
    rw [this] at hs
    exact ⟨_, _, enc a, .any, _, rfl, ⟨by rw [shsh]; exact e2.1, rfl⟩, hs, h⟩
  | false => exact ⟨_, _, enc a, .any, _, rfl, e2.any, s, h⟩
theorem ke_vF {α : Type} [Ty α] [Flat α] {a : α} {μ : Md} (i : Nat) (hi : Γ[i]? = some (Is (enc a) μ)) (h : Ψ (enc a) .cl Γ w) : KE X Γ (eV i) w Ψ := fun env s _ => by
  obtain ⟨d, e1, e2⟩ := s.at hi
  obtain ⟨f1, f2, f3⟩ := e2.flat
  refine .inl ?_
  unfold eV
  rw [e1]
  simp only [e2.dead, f3, Bool.false_eq_true, if_false]
  exact ⟨_, _, enc a, .cl, Γ, rfl, ⟨e2.1, f2⟩, s, h⟩
theorem ke_m {α : Type} [Ty α] {a : α} {μ : Md} (i : Nat) (hi : Γ[i]? = some (Is (enc a) μ)) (h : Ψ (enc a) μ (Γ.set i Tp) w) : KE X Γ (eM i) w Ψ := fun env s _ => by
  obtain ⟨d, e1, e2⟩ := s.at hi
  refine .inl ?_
  unfold eM
  rw [e1]
  simp only [e2.dead, Bool.false_eq_true, if_false]
  exact ⟨_, _, enc a, μ, _, rfl, e2, s.set (P := Tp) trivial, h⟩
def Fin1 (f : D → Option D) (x : D) (μ : Md) (Γ : Ctx) (w : M β) (Ψ : D → Md → Ctx → M β → Prop) : Prop := w ≠ .no → ∀ d, Is x μ d → ∃ e z ν, f d = some e ∧ Is z ν e ∧ Ψ z ν Γ w
def Op1 {γ : Type} [Ty γ] (f : D → Option D) (x : D) (μ : Md) (v : M γ) (ν : Md) : Prop := ∀ d, Is x μ d → v ≠ .no → ∃ c e, v = .ok c ∧ f d = some e ∧ Is (enc c) ν e
def Op1P {γ : Type} [Ty γ] (f : D → Option D) (x : D) (μ : Md) (c : γ) (ν : Md) : Prop := ∀ d, Is x μ d → ∃ e, f d = some e ∧ Is (enc c) ν e
theorem f1 {γ : Type} [Ty γ] {f : D → Option D} {x : D} {μ ν : Md} {v : M γ} {k : γ → M β} (o : Op1 f x μ v ν) (h : ∀ c, Ψ (enc c) ν Γ (k c)) : Fin1 f x μ Γ (v.bind k) Ψ := fun hw d hd => by
  have hv : v ≠ .no := fun e => hw (by rw [e]; rfl)
  obtain ⟨c, e, rfl, e2, e3⟩ := o d hd hv
  exact ⟨e, _, ν, e2, e3, h c⟩
theorem f1p {γ : Type} [Ty γ] {f : D → Option D} {x : D} {μ ν : Md} {c : γ} (o : Op1P f x μ c ν) (h : Ψ (enc c) ν Γ w) : Fin1 f x μ Γ w Ψ := fun hw d hd => by
  obtain ⟨e, e2, e3⟩ := o d hd
  exact ⟨e, _, ν, e2, e3, h⟩
def Fin2 (f : D → D → Option D) (x : D) (μ : Md) (y : D) (ν : Md) (Γ : Ctx) (w : M β) (Ψ : D → Md → Ctx → M β → Prop) : Prop := w ≠ .no → ∀ d1 d2, Is x μ d1 → Is y ν d2 → ∃ e z ρ, f d1 d2 = some e ∧ Is z ρ e ∧ Ψ z ρ Γ w
def Op2 {γ : Type} [Ty γ] (f : D → D → Option D) (x : D) (μ : Md) (y : D) (ν : Md) (v : M γ) (ρ : Md) : Prop := ∀ d1 d2, Is x μ d1 → Is y ν d2 → v ≠ .no → ∃ c e, v = .ok c ∧ f d1 d2 = some e ∧ Is (enc c) ρ e
def Op2P {γ : Type} [Ty γ] (f : D → D → Option D) (x : D) (μ : Md) (y : D) (ν : Md) (c : γ) (ρ : Md) : Prop := ∀ d1 d2, Is x μ d1 → Is y ν d2 → ∃ e, f d1 d2 = some e ∧ Is (enc c) ρ e
theorem f2 {γ : Type} [Ty γ] {f : D → D → Option D} {x y : D} {μ ν ρ : Md} {v : M γ} {k : γ → M β} (o : Op2 f x μ y ν v ρ) (h : ∀ c, Ψ (enc c) ρ Γ (k c)) : Fin2 f x μ y ν Γ (v.bind k) Ψ := fun hw d1 d2 h1 h2 => by
  have hv : v ≠ .no := fun e => hw (by rw [e]; rfl)
  obtain ⟨c, e, rfl, e2, e3⟩ := o d1 d2 h1 h2 hv
  exact ⟨e, _, ρ, e2, e3, h c⟩
theorem f2p {γ : Type} [Ty γ] {f : D → D → Option D} {x y : D} {μ ν ρ : Md} {c : γ} (o : Op2P f x μ y ν c ρ) (h : Ψ (enc c) ρ Γ w) : Fin2 f x μ y ν Γ w Ψ := fun hw d1 d2 h1 h2 => by
  obtain ⟨e, e2, e3⟩ := o d1 d2 h1 h2
  exact ⟨e, _, ρ, e2, e3, h⟩
/-- the slot i -/
def At (Γ : Ctx) (i : Nat) (P : D → Md → Prop) : Prop := ∃ x μ, Γ[i]? = some (Is x μ) ∧ (∀ d, Is x μ d → isDead d = false) ∧ P x μ
theorem at_ {α : Type} [Ty α] {a : α} {μ : Md} {i : Nat} {P : D → Md → Prop} (hi : Γ[i]? = some (Is (enc a) μ)) (h : P (enc a) μ) : At Γ i P := ⟨_, _, hi, fun _ h => h.dead, h⟩
theorem ke_un {f : D → Option D} (h : KE X Γ ma w fun x μ Γ1 w1 => Fin1 f x μ Γ1 w1 Ψ) : KE X Γ (eUn f ma) w Ψ := fun env s hw => by
  unfold eUn
  rcases h env s hw with ⟨d, e, x, μ, Γ', e1, e2, e3, e4⟩ | ⟨c, es, e, e1, e2, e3⟩
  · obtain ⟨r, z, ν, g1, g2, g3⟩ := e4 hw d e2
    exact .inl ⟨r, e, z, ν, Γ', by rw [e1]; simp [g1], g2, e3, g3⟩
  · exact .inr ⟨c, es, e, by rw [e1]; rfl, e2, e3⟩
theorem ke_bin {f : D → D → Option D} (h : KE X Γ ma w fun x μ Γ1 w1 => KE X Γ1 mb w1 fun y ν Γ2 w2 => Fin2 f x μ y ν Γ2 w2 Ψ) : KE X Γ (eBin f ma mb) w Ψ := fun env s hw => by
  unfold eBin
  rcases h env s hw with ⟨d, e, x, μ, Γ', e1, e2, e3, e4⟩ | ⟨c, es, e, e1, e2, e3⟩
  · rcases e4 e e3 hw with ⟨d', e', x', μ', Γ2, q1, q2, q3, q4⟩ | ⟨c, es, e', q1, q2, q3⟩
    · obtain ⟨r, z, ν, g1, g2, g3⟩ := q4 hw d d' e2 q2
      exact .inl ⟨r, e', z, ν, Γ2, by rw [e1]; simp [q1, g1], g2, q3, g3⟩
    · exact .inr ⟨c, es, e', by rw [e1]; simp [q1], q2, q3⟩
  · exact .inr ⟨c, es, e, by rw [e1]; rfl, e2, e3⟩
theorem ke_binV {f : D → D → Option D} {i : Nat} (h : KE X Γ ma w fun x μ Γ1 w1 => At Γ1 i fun y ν => Fin2 f x μ y ν Γ1 w1 Ψ) : KE X Γ (eBinV f ma i) w Ψ := fun env s hw => by
  unfold eBinV
  rcases h env s hw with ⟨d, e, x, μ, Γ', e1, e2, e3, ⟨y, ν, a1, a2, a3⟩⟩ | ⟨c, es, e, e1, e2, e3⟩
  · obtain ⟨d', q1, q2⟩ := e3.at a1
    obtain ⟨r, z, ν, g1, g2, g3⟩ := a3 hw d d' e2 q2
    exact .inl ⟨r, e, z, ν, Γ', by rw [e1]; simp [q1, g1, a2 d' q2], g2, e3, g3⟩
  · exact .inr ⟨c, es, e, by rw [e1]; rfl, e2, e3⟩
theorem live_of {i : Nat} {env : Fl.Env} (s : Sat Γ env) {P : D → Md → Prop} (h : At Γ i P) : live env i = true := by
  obtain ⟨x, μ, a1, a2, a3⟩ := h
  obtain ⟨d, q1, q2⟩ := s.at a1
  simp [q1, a2 d q2]
theorem ke_binL {f : D → D → Option D} {i : Nat} (hl : At Γ i fun _ _ => True) (h : KE X Γ mb w fun y ν Γ1 w1 => At Γ1 i fun x μ => Fin2 f x μ y ν Γ1 w1 Ψ) : KE X Γ (eBinL f i mb) w Ψ := fun env s hw => by
  unfold eBinL
  rw [if_pos (live_of s hl)]
  rcases h env s hw with ⟨d, e, x, μ, Γ', e1, e2, e3, ⟨y, ν, a1, a2, a3⟩⟩ | ⟨c, es, e, e1, e2, e3⟩
  · obtain ⟨d', q1, q2⟩ := e3.at a1
    obtain ⟨r, z, ν, g1, g2, g3⟩ := a3 hw d' d q2 e2
    exact .inl ⟨r, e, z, ν, Γ', by rw [e1]; simp [q1, g1, a2 d' q2], g2, e3, g3⟩
  · exact .inr ⟨c, es, e, by rw [e1]; rfl, e2, e3⟩
theorem ka_nil (h : ΨA [] Γ w) : KA X Γ aN w ΨA := fun env s hw => .inl ⟨[], env, [], Γ, rfl, trivial, s, h⟩
theorem ka_cons (h : KE X Γ m w fun x μ Γ1 w1 => KA X Γ1 ms w1 fun as Γ2 w2 => ΨA ((x, μ) :: as) Γ2 w2) : KA X Γ (aC m ms) w ΨA := fun env s hw => by
  unfold aC
  rcases h env s hw with ⟨d, e, x, μ, Γ', e1, e2, e3, e4⟩ | ⟨c, es, e, e1, e2, e3⟩
  · rcases e4 e e3 hw with ⟨ds, e', as, Γ2, q1, q2, q3, q4⟩ | ⟨c, es, e', q1, q2, q3⟩
    · exact .inl ⟨d :: ds, e', (x, μ) :: as, Γ2, by rw [e1]; simp [q1], ⟨e2, q2⟩, q3, q4⟩
    · exact .inr ⟨c, es, e', by rw [e1]; simp [q1], q2, q3⟩
  · exact .inr ⟨c, es, e, by rw [e1]; rfl, e2, e3⟩
def ags : Ags → Bool
  | [] => true
  | (_, .cl) :: as => ags as
  | _ => false
theorem SatA.clean : ∀ {as : Ags} {ds : List D}, SatA as ds → ags as = true → cleanL ds = true
  | [], [], _, _ => rfl
  | (x, .cl) :: as, d :: ds, h, g => by
    have h1 : Fl.clean d = true := h.1.2
    have h2 := SatA.clean h.2 (by simpa [ags] using g)
    simp [cleanL, h1, h2]
  | (x, .any) :: as, d :: ds, h, g => by simp [ags] at g
  | (x, .top) :: as, d :: ds, h, g => by simp [ags] at g
  | (x, .tl) :: as, d :: ds, h, g => by simp [ags] at g
  | [], _ :: _, h, _ => h.elim
  | _ :: _, [], h, _ => h.elim
def mdT (as : Ags) : Md := if ags as then .cl else .any
def mdL (as : Ags) : Md := if ags as then .cl else .top
def FinT (as : Ags) (Γ : Ctx) (w : M β) (Ψ : D → Md → Ctx → M β → Prop) : Prop := as.length ≤ 100000 ∧ ∃ z, sh z = z ∧ z = .tup (as.map Prod.fst) ∧ Ψ z (mdT as) Γ w
def FinL (as : Ags) (Γ : Ctx) (w : M β) (Ψ : D → Md → Ctx → M β → Prop) : Prop := as.length ≤ 100000 ∧ ∃ z, sh z = z ∧ z = .lst false (as.map Prod.fst) ∧ Ψ z (mdL as) Γ w
theorem ke_tup (h : KA X Γ ms w fun as Γ1 w1 => FinT as Γ1 w1 Ψ) : KE X Γ (eTup ms) w Ψ := fun env s hw => by
  unfold eTup
  rcases h env s hw with ⟨ds, e, as, Γ', e1, e2, e3, e4, z, z0, z1, e5⟩ | ⟨c, es, e, e1, e2, e3⟩
  · refine .inl ⟨.tup ds, e, z, mdT as, Γ', ?_, ⟨by rw [z1]; simp [e2.sh], ?_⟩, e3, e5⟩
    · have := e2.len
      rw [e1]; simp; omega
    · unfold mdT
      split
      · rename_i hc; simpa [mdB, Fl.clean] using e2.clean hc
      · rfl
  · exact .inr ⟨c, es, e, by rw [e1]; rfl, e2, e3⟩
theorem ke_lst (h : KA X Γ ms w fun as Γ1 w1 => FinL as Γ1 w1 Ψ) : KE X Γ (eLst ms) w Ψ := fun env s hw => by
  unfold eLst
  rcases h env s hw with ⟨ds, e, as, Γ', e1, e2, e3, e4, z, z0, z1, e5⟩ | ⟨c, es, e, e1, e2, e3⟩
  · refine .inl ⟨.lst true ds, e, z, mdL as, Γ', ?_, ⟨by rw [z1]; simp [e2.sh], ?_⟩, e3, e5⟩
    · have := e2.len
      rw [e1]; simp; omega
    · unfold mdL
      split
      · rename_i hc; simpa [mdB, Fl.clean] using e2.clean hc
      · rfl
  · exact .inr ⟨c, es, e, by rw [e1]; rfl, e2, e3⟩
/-- the display is the thing z (whose type is told by it) -/
theorem ft {α : Type} [Ty α] {a : α} {as : Ags} (μ : Md) (h : Ψ (enc a) μ Γ w) (e : enc a = .tup (as.map Prod.fst) := by rfl) (hm : mdT as = μ := by rfl) (hl : as.length ≤ 100000 := by exact Nat.le_of_ble_eq_true rfl) : FinT as Γ w Ψ := ⟨hl, enc a, Ty.can a, e, by rw [hm]; exact h⟩
theorem fl {α : Type} [Ty α] {a : α} {as : Ags} (μ : Md) (h : Ψ (enc a) μ Γ w) (e : enc a = .lst false (as.map Prod.fst) := by rfl) (hm : mdL as = μ := by rfl) (hl : as.length ≤ 100000 := by exact Nat.le_of_ble_eq_true rfl) : FinL as Γ w Ψ := ⟨hl, enc a, Ty.can a, e, by rw [hm]; exact h⟩
def FinA (f : List D → Option D) (as : Ags) (Γ : Ctx) (w : M β) (Ψ : D → Md → Ctx → M β → Prop) : Prop := w ≠ .no → ∀ ds, SatA as ds → ∃ e z ρ, f ds = some e ∧ Is z ρ e ∧ Ψ z ρ Γ w
theorem ke_b {f : List D → Option D} (h : KA X Γ ms w fun as Γ1 w1 => FinA f as Γ1 w1 Ψ) : KE X Γ (eB f ms) w Ψ := fun env s hw => by
  unfold eB
  rcases h env s hw with ⟨ds, e, as, Γ', e1, e2, e3, e4⟩ | ⟨c, es, e, e1, e2, e3⟩
  · obtain ⟨r, z, ν, g1, g2, g3⟩ := e4 hw ds e2
    exact .inl ⟨r, e, z, ν, Γ', by rw [e1]; simp [g1], g2, e3, g3⟩
  · exact .inr ⟨c, es, e, by rw [e1]; rfl, e2, e3⟩
def OpA {γ : Type} [Ty γ] (f : List D → Option D) (as : Ags) (v : M γ) (ρ : Md) : Prop := ∀ ds, SatA as ds → v ≠ .no → ∃ c e, v = .ok c ∧ f ds = some e ∧ Is (enc c) ρ e
def OpAP {γ : Type} [Ty γ] (f : List D → Option D) (as : Ags) (c : γ) (ρ : Md) : Prop := ∀ ds, SatA as ds → ∃ e, f ds = some e ∧ Is (enc c) ρ e
theorem fa {γ : Type} [Ty γ] {f : List D → Option D} {as : Ags} {ρ : Md} {v : M γ} {k : γ → M β} (o : OpA f as v ρ) (h : ∀ c, Ψ (enc c) ρ Γ (k c)) : FinA f as Γ (v.bind k) Ψ := fun hw ds hd => by
  have hv : v ≠ .no := fun e => hw (by rw [e]; rfl)
  obtain ⟨c, e, rfl, e2, e3⟩ := o ds hd hv
  exact ⟨e, _, ρ, e2, e3, h c⟩
theorem fap {γ : Type} [Ty γ] {f : List D → Option D} {as : Ags} {ρ : Md} {c : γ} (o : OpAP f as c ρ) (h : Ψ (enc c) ρ Γ w) : FinA f as Γ w Ψ := fun hw ds hd => by
  obtain ⟨e, e2, e3⟩ := o ds hd
  exact ⟨e, _, ρ, e2, e3, h⟩
theorem ke_bV {f : List D → Option D} {i : Nat} (h : At Γ i fun x μ => FinA f [(x, μ)] Γ w Ψ) : KE X Γ (eBV f i) w Ψ := fun env s hw => by
  obtain ⟨x, μ, a1, a2, a3⟩ := h
  obtain ⟨d, q1, q2⟩ := s.at a1
  obtain ⟨r, z, ν, g1, g2, g3⟩ := a3 hw [d] ⟨q2, trivial⟩
  exact .inl ⟨r, env, z, ν, Γ, by simp [q1, a2 d q2, g1], g2, s, g3⟩
/-- isinstance by the tree -/
def isiX (n : String) (x : D) : Bool := match kindD x with
  | some k => instOf k n
  | none => false
/-- is None by the tree -/
def isNonX (x : D) : Bool := match x with
  | .non => true
  | _ => false
@[simp] theorem isNonX_none {α : Type} [Ty α] : isNonX (enc (none : Option α)) = true := rfl
@[simp] theorem isNonX_some {α : Type} [Ty α] [NN α] {a : α} : isNonX (enc (some a)) = false := by
  have h := NN.nn a
  show isNonX (enc a) = false
  generalize enc a = x at h
  cases x <;> first | rfl | simp [isNon] at h
@[simp] theorem isNonX_nn {α : Type} [Ty α] [NN α] {a : α} : isNonX (enc a) = false := isNonX_some
@[simp] theorem isNonX_opt {α : Type} [Ty α] [NN α] {o : Option α} : isNonX (enc o) = o.isNone := by
  cases o with
  | none => rfl
  | some a => exact isNonX_some
theorem kb_of (h : KE X Γ m w fun x μ Γ1 w1 => ∃ t : Bool, x = enc t ∧ ΨB t Γ1 w1) : KB X Γ (bOf m) w ΨB := fun env s hw => by
  unfold bOf
  rcases h env s hw with ⟨d, e, x, μ, Γ', e1, e2, e3, t, rfl, e4⟩ | ⟨c, es, e, e1, e2, e3⟩
  · obtain ⟨rfl, _⟩ := e2.flat
    exact .inl ⟨t, e, Γ', by rw [e1]; rfl, e3, e4⟩
  · exact .inr ⟨c, es, e, by rw [e1]; rfl, e2, e3⟩
theorem kb_not (h : KB X Γ b w fun t Γ1 w1 => ΨB (!t) Γ1 w1) : KB X Γ (bNot b) w ΨB := fun env s hw => by
  unfold bNot
  rcases h env s hw with ⟨t, e, Γ', e1, e3, e4⟩ | ⟨c, es, e, e1, e2, e3⟩
  · exact .inl ⟨_, e, Γ', by rw [e1]; rfl, e3, e4⟩
  · exact .inr ⟨c, es, e, by rw [e1]; rfl, e2, e3⟩
/-- a and b, b's own way told by itself; Δ: what holds behind it -/
theorem kb_and (h : KB X Γ b w fun t Γ1 w1 => ∃ (Δ : Ctx) (v : M Bool) (k : Bool → M β), w1 = (if t then v else .ok false).bind k ∧ Wk Γ1 Δ ∧ (t = true → KB X Γ1 c v fun t2 Γ2 w2 => w2 = .ok t2 ∧ Wk Γ2 Δ) ∧ ∀ t2, ΨB t2 Δ (k t2)) :
    KB X Γ (bAnd b c) w ΨB := fun env s hw => by
  unfold bAnd
  rcases h env s hw with ⟨t', e, Γ', e1, e3, Δ, v, k, rfl, e5, e6, e7⟩ | ⟨c, es, e, e1, e2, e3⟩
  · rw [e1]
    cases t' with
    | false => exact .inl ⟨false, e, Δ, rfl, e5.sat e3, e7 false⟩
    | true =>
      simp only [Res.bind_ok, if_true]
      simp only [if_true] at hw ⊢
      have hv : v ≠ .no := fun e => hw (by rw [e]; rfl)
      rcases e6 rfl e e3 hv with ⟨t2, e2, Γ2, q1, q2, q3, q4⟩ | ⟨c, es, e2, q1, q2, q3⟩
      · exact .inl ⟨t2, e2, Δ, q1, q4.sat q2, by rw [q3]; exact e7 t2⟩
      · exact .inr ⟨c, es, e2, q1, by rw [q2]; rfl, q3⟩
  · exact .inr ⟨c, es, e, by rw [e1]; rfl, e2, e3⟩
end
end Fl
namespace Fl
open PySem
open Ty (enc)
variable {β : Type}
def ix {α : Type} (xs : List α) (j : Int) : M α := match L2.atI xs j with
  | some a => .ok a
  | none => .no
def ItV {γ : Type} [Ty γ] (j : Int) (x : D) (v : M γ) : Prop := ∀ d, sh d = x → v ≠ .no → ∃ c e, v = .ok c ∧ ixD d j = some e ∧ sh e = enc c
theorem shL_len' {ds : List D} {xs : List D} (h : shL ds = xs) : ds.length = xs.length := by rw [← h, shL_len]
theorem shL_at {ds xs : List D} (h : shL ds = xs) {k : Nat} {x : D} (hx : xs[k]? = some x) : ∃ e, ds[k]? = some e ∧ sh e = x := by
  subst h
  rw [shLmap, List.getElem?_map] at hx
  cases e : ds[k]? with
  | none => rw [e] at hx; cases hx
  | some d => rw [e] at hx; exact ⟨d, rfl, by simpa using hx⟩
theorem atI_sh {ds xs : List D} (h : shL ds = xs) {j : Int} {x : D} (hx : L2.atI xs j = some x) : ∃ e, L2.atI ds j = some e ∧ sh e = x := by
  unfold L2.atI at hx ⊢
  rw [shL_len' h]
  cases e : L2.ixN xs.length j with
  | none => rw [e] at hx; cases hx
  | some k => rw [e] at hx; exact shL_at h (by simpa using hx)
theorem atI_map {α γ : Type} {f : α → γ} {xs : List α} {j : Int} {a : α} (h : L2.atI xs j = some a) : L2.atI (xs.map f) j = some (f a) := by
  unfold L2.atI at h ⊢
  rw [List.length_map]
  cases e : L2.ixN xs.length j with
  | none => rw [e] at h; cases h
  | some k => rw [e] at h; simp at h ⊢; exact ⟨a, h, rfl⟩
theorem sh_lst_inv {d : D} {ys : List D} (h : sh d = .lst false ys) : ∃ o ds, d = .lst o ds ∧ shL ds = ys := by
  cases d <;> simp [sh] at h
  exact ⟨_, _, rfl, h⟩
theorem sh_tup_inv {d : D} {ys : List D} (h : sh d = .tup ys) : ∃ ds, d = .tup ds ∧ shL ds = ys := by
  cases d <;> simp [sh] at h
  exact ⟨_, rfl, h⟩
theorem itv_of {γ : Type} [Ty γ] {j : Int} {x : D} {xs : List D} {v : M γ} (hx : itD x = some xs) (h : v ≠ .no → ∃ c, v = .ok c ∧ L2.atI xs j = some (enc c)) : ItV j x v := fun d hd hv => by
  obtain ⟨c, rfl, hc⟩ := h hv
  have key : ∃ ds, itD d = some ds ∧ shL ds = xs := by
    subst hd
    cases d <;> simp [sh, itD] at hx ⊢ <;> exact hx
  obtain ⟨ds, e1, e2⟩ := key
  obtain ⟨e, q1, q2⟩ := atI_sh e2 hc
  exact ⟨c, e, rfl, by simp [ixD, e1, q1], q2⟩
section
variable {α γ δ ε : Type} [Ty α] [Ty γ] [Ty δ] [Ty ε]
theorem iv_list {xs : List α} {j : Int} : ItV j (enc xs) (ix xs j) := itv_of (x := enc xs) rfl fun hv => by
  unfold ix at *
  cases e : L2.atI xs j with
  | none => rw [e] at hv; exact absurd rfl hv
  | some a => exact ⟨a, rfl, atI_map e⟩
theorem iv_scr {s : Scr} {j : Int} : ItV j (enc s) (ix s.l j) := itv_of (x := enc s) rfl fun hv => by
  unfold ix at *
  cases e : L2.atI s.l j with
  | none => rw [e] at hv; exact absurd rfl hv
  | some a => exact ⟨a, rfl, atI_map e⟩
theorem iv_2a {t : T2 α γ} : ItV 0 (enc t) (M.ok t.a) := itv_of (x := enc t) rfl fun _ => ⟨_, rfl, rfl⟩
theorem iv_2b {t : T2 α γ} : ItV 1 (enc t) (M.ok t.b) := itv_of (x := enc t) rfl fun _ => ⟨_, rfl, rfl⟩
theorem iv_f2a {t : F2 α γ} : ItV 0 (enc t) (M.ok t.a) := itv_of (x := enc t) rfl fun _ => ⟨_, rfl, rfl⟩
theorem iv_f2b {t : F2 α γ} : ItV 1 (enc t) (M.ok t.b) := itv_of (x := enc t) rfl fun _ => ⟨_, rfl, rfl⟩
theorem iv_qa {q : Rat} : ItV 0 (enc q) (M.ok q.num) := itv_of (x := enc q) rfl fun _ => ⟨_, rfl, rfl⟩
end
section
variable {X : XP} {Γ : Ctx} {w : M β} {Ψ : D → Md → Ctx → M β → Prop} {ΨB : Bool → Ctx → M β → Prop} {ΨA : Ags → Ctx → M β → Prop} {ΨI : List D → Ctx → M β → Prop} {m ma mb mc : Exp} {ms : Arg} {b c : Tst}
def FinX (j : Int) (x : D) (μ : Md) (i : Nat) (Γ : Ctx) (w : M β) (Ψ : D → Md → Ctx → M β → Prop) : Prop := w ≠ .no → ∀ d, Is x μ d → ∃ e z ν Γ', ixD d j = some e ∧ Is z ν (if own e then sh e else e) ∧
  (∀ env, Sat Γ env → env[i]? = some d → Sat Γ' (if own e then env.set i (sh d) else env)) ∧ Ψ z ν Γ' w
theorem ke_ixV (i : Nat) (hl : At Γ i fun _ _ => True) (h : KE X Γ mb w fun y _ Γ1 w1 => ∃ j : Int, y = enc j ∧ At Γ1 i fun x μ => FinX j x μ i Γ1 w1 Ψ) : KE X Γ (eIxV i mb) w Ψ := fun env s hw => by
  unfold eIxV
  rw [if_pos (live_of s hl)]
  rcases h env s hw with ⟨d, e, x, μ, Γ', e1, e2, e3, j, rfl, ⟨y, ν, a1, a2, a3⟩⟩ | ⟨c, es, e, e1, e2, e3⟩
  · obtain ⟨rfl, _⟩ := e2.flat
    obtain ⟨d', q1, q2⟩ := e3.at a1
    obtain ⟨r, z, ρ, Γ2, g1, g2, g3, g4⟩ := a3 hw d' q2
    have g5 := g3 e e3 q1
    rw [e1]
    cases ho : own r with
    | true => rw [ho] at g2 g5; exact .inl ⟨sh r, _, z, ρ, Γ2, by simp [q1, g1, ho], g2, g5, g4⟩
    | false => rw [ho] at g2 g5; exact .inl ⟨r, _, z, ρ, Γ2, by simp [q1, g1, ho], g2, g5, g4⟩
  · exact .inr ⟨c, es, e, by rw [e1]; rfl, e2, e3⟩
theorem fxF {γ : Type} [Ty γ] [Flat γ] {j : Int} {x : D} {μ : Md} {i : Nat} {v : M γ} {k : γ → M β} (o : ItV j x v) (h : ∀ c, Ψ (enc c) .cl Γ (k c)) : FinX j x μ i Γ (v.bind k) Ψ := fun hw d hd => by
  obtain ⟨c, e, rfl, e2, e3⟩ := o d hd.1 fun e => hw (by rw [e]; rfl)
  have hf : Is (enc c) .any e := ⟨e3, rfl⟩
  obtain ⟨f1, f2, f3⟩ := hf.flat
  exact ⟨e, enc c, .cl, Γ, e2, by simp [f3]; exact ⟨e3, f2⟩, fun env s _ => by simp [f3]; exact s, h c⟩
theorem fxN {γ : Type} [Ty γ] {j : Int} {x : D} {μ : Md} {i : Nat} {v : M γ} {k : γ → M β} (o : ItV j x v) (h : ∀ c, Ψ (enc c) .any (Γ.set i (Is x .any)) (k c)) : FinX j x μ i Γ (v.bind k) Ψ := fun hw d hd => by
  obtain ⟨c, e, rfl, e2, e3⟩ := o d hd.1 fun e => hw (by rw [e]; rfl)
  refine ⟨e, enc c, .any, _, e2, ?_, fun env s hi => ?_, h c⟩
  · split
    · exact ⟨by rw [shsh]; exact e3, rfl⟩
    · exact ⟨e3, rfl⟩
  · split
    · exact s.set (P := Is x .any) ⟨by rw [shsh]; exact hd.1, rfl⟩
    · exact s.setP hi hd.any
/-- of a thing that nobody changes any more -/
theorem fxA {γ : Type} [Ty γ] {j : Int} {x : D} {i : Nat} {v : M γ} {k : γ → M β} (o : ItV j x v) (hi : Γ[i]? = some (Is x .any)) (h : ∀ c, Ψ (enc c) .any Γ (k c)) : FinX j x .any i Γ (v.bind k) Ψ := fxN o fun c => by
  have : Γ.set i (Is x .any) = Γ := by
    apply List.ext_getElem?
    intro j
    by_cases e : i = j
    · subst e; rw [List.getElem?_set_self (List.getElem?_eq_some_iff.mp hi).1, hi]
    · rw [List.getElem?_set_ne e]
  rw [this]; exact h c
theorem fxFp {γ : Type} [Ty γ] [Flat γ] {j : Int} {x : D} {μ : Md} {i : Nat} {c : γ} (o : ItV j x (M.ok c)) (h : Ψ (enc c) .cl Γ w) : FinX j x μ i Γ w Ψ := fun hw d hd => by
  obtain ⟨c', e, e1, e2, e3⟩ := o d hd.1 (by simp)
  cases e1
  have hf : Is (enc c) .any e := ⟨e3, rfl⟩
  obtain ⟨f1, f2, f3⟩ := hf.flat
  exact ⟨e, enc c, .cl, Γ, e2, by simp [f3]; exact ⟨e3, f2⟩, fun env s _ => by simp [f3]; exact s, h⟩
theorem fxNp {γ : Type} [Ty γ] {j : Int} {x : D} {μ : Md} {i : Nat} {c : γ} (o : ItV j x (M.ok c)) (h : Ψ (enc c) .any (Γ.set i (Is x .any)) w) : FinX j x μ i Γ w Ψ := fun hw d hd => by
  obtain ⟨c', e, e1, e2, e3⟩ := o d hd.1 (by simp)
  cases e1
  refine ⟨e, enc c, .any, _, e2, ?_, fun env s hi => ?_, h⟩
  · split
    · exact ⟨by rw [shsh]; exact e3, rfl⟩
    · exact ⟨e3, rfl⟩
  · split
    · exact s.set (P := Is x .any) ⟨by rw [shsh]; exact hd.1, rfl⟩
    · exact s.setP hi hd.any
theorem set_same {i : Nat} {P : D → Prop} (hi : Γ[i]? = some P) : Γ.set i P = Γ := by
  apply List.ext_getElem?
  intro j
  by_cases e : i = j
  · subst e; rw [List.getElem?_set_self (List.getElem?_eq_some_iff.mp hi).1, hi]
  · rw [List.getElem?_set_ne e]
theorem fxAp {γ : Type} [Ty γ] {j : Int} {x : D} {i : Nat} {c : γ} (o : ItV j x (M.ok c)) (hi : Γ[i]? = some (Is x .any)) (h : Ψ (enc c) .any Γ w) : FinX j x .any i Γ w Ψ := fxNp o (by rw [set_same hi]; exact h)
def FinE (j : Int) (x : D) (μ : Md) (Γ : Ctx) (w : M β) (Ψ : D → Md → Ctx → M β → Prop) : Prop := w ≠ .no → ∀ d, Is x μ d → ∃ e z ν, ixD d j = some e ∧ Is z ν e ∧ Ψ z ν Γ w
theorem ke_ix (h : KE X Γ ma w fun x μ Γ1 w1 => KE X Γ1 mb w1 fun y _ Γ2 w2 => ∃ j : Int, y = enc j ∧ FinE j x μ Γ2 w2 Ψ) : KE X Γ (eIx ma mb) w Ψ := fun env s hw => by
  unfold eIx
  rcases h env s hw with ⟨d, e, x, μ, Γ', e1, e2, e3, e4⟩ | ⟨c, es, e, e1, e2, e3⟩
  · rcases e4 e e3 hw with ⟨d', e', x', μ', Γ2, q1, q2, q3, j, rfl, q4⟩ | ⟨c, es, e', q1, q2, q3⟩
    · obtain ⟨rfl, _⟩ := q2.flat
      obtain ⟨r, z, ν, g1, g2, g3⟩ := q4 hw d e2
      exact .inl ⟨r, e', z, ν, Γ2, by rw [e1]; simp [q1, g1], g2, q3, g3⟩
    · exact .inr ⟨c, es, e', by rw [e1]; simp [q1], q2, q3⟩
  · exact .inr ⟨c, es, e, by rw [e1]; rfl, e2, e3⟩
theorem feF {γ : Type} [Ty γ] [Flat γ] {j : Int} {x : D} {μ : Md} {v : M γ} {k : γ → M β} (o : ItV j x v) (h : ∀ c, Ψ (enc c) .cl Γ (k c)) : FinE j x μ Γ (v.bind k) Ψ := fun hw d hd => by
  obtain ⟨c, e, rfl, e2, e3⟩ := o d hd.1 fun e => hw (by rw [e]; rfl)
  have hf : Is (enc c) .any e := ⟨e3, rfl⟩
  exact ⟨e, enc c, .cl, e2, ⟨e3, hf.flat.2.1⟩, h c⟩
theorem feN {γ : Type} [Ty γ] {j : Int} {x : D} {μ : Md} {v : M γ} {k : γ → M β} (o : ItV j x v) (h : ∀ c, Ψ (enc c) .any Γ (k c)) : FinE j x μ Γ (v.bind k) Ψ := fun hw d hd => by
  obtain ⟨c, e, rfl, e2, e3⟩ := o d hd.1 fun e => hw (by rw [e]; rfl)
  exact ⟨e, enc c, .any, e2, ⟨e3, rfl⟩, h c⟩
theorem feFp {γ : Type} [Ty γ] [Flat γ] {j : Int} {x : D} {μ : Md} {c : γ} (o : ItV j x (M.ok c)) (h : Ψ (enc c) .cl Γ w) : FinE j x μ Γ w Ψ := fun hw d hd => by
  obtain ⟨c', e, e1, e2, e3⟩ := o d hd.1 (by simp)
  cases e1
  have hf : Is (enc c) .any e := ⟨e3, rfl⟩
  exact ⟨e, enc c, .cl, e2, ⟨e3, hf.flat.2.1⟩, h⟩
theorem feNp {γ : Type} [Ty γ] {j : Int} {x : D} {μ : Md} {c : γ} (o : ItV j x (M.ok c)) (h : Ψ (enc c) .any Γ w) : FinE j x μ Γ w Ψ := fun hw d hd => by
  obtain ⟨c', e, e1, e2, e3⟩ := o d hd.1 (by simp)
  cases e1
  exact ⟨e, enc c, .any, e2, ⟨e3, rfl⟩, h⟩
def SFa {ρ : Type} [Ty ρ] (m : Fn) (xs : List D) (v : M ρ) (ν : Md) : Prop := ∀ ds, shL ds = xs → v ≠ .no → (∃ r d d0, v = .ok r ∧ m ds = .ok (d, d0) ∧ Is (enc r) ν d) ∨ (∃ c es e, v = .ex c (shL es) ∧ m ds = .ex (.exo c es) e)
/-- the first one is changed by it -/
def SFx {ρ σ : Type} [Ty ρ] [Ty σ] (m : Fn) (x : D) (xs : List D) (v : M (ρ × σ)) (ν : Md) : Prop := ∀ d0 ds, Is x .cl d0 → shL ds = xs → v ≠ .no → (∃ r s d d', v = .ok (r, s) ∧ m (d0 :: ds) = .ok (d, d') ∧ Is (enc r) ν d ∧ Is (enc s) .cl d') ∨ (∃ c es e, v = .ex c (shL es) ∧ m (d0 :: ds) = .ex (.exo c es) e)
def FinC (m : Fn) (as : Ags) (Γ : Ctx) (w : M β) (Ψ : D → Md → Ctx → M β → Prop) : Prop := w ≠ .no → ∀ ds, SatA as ds → ∃ d d0 z ν, m ds = .ok (d, d0) ∧ Is z ν d ∧ Ψ z ν Γ w
theorem ke_call {f : Fn} (h : KA X Γ ms w fun as Γ1 w1 => FinC f as Γ1 w1 Ψ) : KE X Γ (eCall f ms) w Ψ := fun env s hw => by
  unfold eCall
  rcases h env s hw with ⟨ds, e, as, Γ', e1, e2, e3, e4⟩ | ⟨c, es, e, e1, e2, e3⟩
  · obtain ⟨r, r0, z, ν, g1, g2, g3⟩ := e4 hw ds e2
    exact .inl ⟨r, e, z, ν, Γ', by rw [e1]; simp [g1], g2, e3, g3⟩
  · exact .inr ⟨c, es, e, by rw [e1]; rfl, e2, e3⟩
theorem fc {ρ : Type} [Ty ρ] {f : Fn} {as : Ags} {xs : List D} {v : M ρ} {ν : Md} {k : ρ → M β} (o : SFa f xs v ν) (h : ∀ r, Ψ (enc r) ν Γ (k r)) (e : as.map Prod.fst = xs := by rfl) : FinC f as Γ (v.call.bind k) Ψ := fun hw ds hd => by
  obtain ⟨r, rfl⟩ := M.of_call hw
  rcases o ds (hd.sh.trans e) (by simp) with ⟨r', d, d0, q, g1, g2⟩ | ⟨c, es, e', q, _⟩
  · cases q; exact ⟨d, d0, _, ν, g1, g2, h r⟩
  · cases q
/-- of a def that changes its first argument, called with a thing that is nobody else's -/
theorem fcT {ρ σ : Type} [Ty ρ] [Ty σ] {f : Fn} {x : D} {as : Ags} {xs : List D} {v : M (ρ × σ)} {ν : Md} {k : ρ → σ → M β} (o : SFx f x xs v ν) (h : ∀ r s, Ψ (enc r) ν Γ (k r s)) (e : as.map Prod.fst = xs := by rfl) : FinC f ((x, .cl) :: as) Γ (v.call.bind2 k) Ψ := fun hw ds hd => by
  obtain ⟨r, rfl⟩ := M.of_call2 hw
  match ds, hd with
  | d0 :: ds, hd =>
    rcases o d0 ds hd.1 (hd.2.sh.trans e) (by simp) with ⟨r', s, d, d', q, g1, g2, _⟩ | ⟨c, es, e', q, _⟩
    · cases q; exact ⟨d, d', _, ν, g1, g2, h r' s⟩
    · cases q
def FinCx (m : Fn) (i : Nat) (as : Ags) (Γ : Ctx) (w : M β) (Ψ : D → Md → Ctx → M β → Prop) : Prop := w ≠ .no → ∃ x, Γ[i]? = some (Is x .cl) ∧ (∀ d, Is x .cl d → isDead d = false) ∧ ∀ d0 ds, Is x .cl d0 → SatA as ds → ∃ d d' z ν x', m (d0 :: ds) = .ok (d, d') ∧ Is z ν d ∧ Is x' .cl d' ∧ Ψ z ν (Γ.set i (Is x' .cl)) w
theorem ke_callX {f : Fn} (i : Nat) (hl : At Γ i fun _ _ => True) (h : KA X Γ ms w fun as Γ1 w1 => FinCx f i as Γ1 w1 Ψ) : KE X Γ (eCallX f i ms) w Ψ := fun env s hw => by
  unfold eCallX
  rw [if_pos (live_of s hl)]
  rcases h env s hw with ⟨ds, e, as, Γ', e1, e2, e3, e4⟩ | ⟨c, es, e, e1, e2, e3⟩
  · obtain ⟨x, a1, a2, a3⟩ := e4 hw
    obtain ⟨c, q1, q2⟩ := e3.at a1
    obtain ⟨d, d', z, ν, x', g1, g2, g3, g4⟩ := a3 c ds q2 e2
    exact .inl ⟨d, _, z, ν, _, by rw [e1]; simp [q1, a2 c q2, g1], g2, e3.set g3, g4⟩
  · exact .inr ⟨c, es, e, by rw [e1]; rfl, e2, e3⟩
theorem fcx {ρ σ τ : Type} [Ty ρ] [Ty σ] [Ty τ] {f : Fn} {i : Nat} {a : τ} {as : Ags} {xs : List D} {v : M (ρ × σ)} {ν : Md} {k : ρ → σ → M β} (o : SFx f (enc a) xs v ν) (h : ∀ r s, Ψ (enc r) ν (Γ.set i (Is (enc s) .cl)) (k r s)) (hi : Γ[i]? = some (Is (enc a) .cl) := by rfl) (e : as.map Prod.fst = xs := by rfl) :
    FinCx f i as Γ (v.call.bind2 k) Ψ := fun hw => by
  obtain ⟨r, rfl⟩ := M.of_call2 hw
  refine ⟨enc a, hi, fun d h => h.dead, fun d0 ds h0 hd => ?_⟩
  rcases o d0 ds h0 (hd.sh.trans e) (by simp) with ⟨r', s, d, d', q, g1, g2, g3⟩ | ⟨c, es, e', q, _⟩
  · cases q; exact ⟨d, d', _, ν, _, g1, g2, g3, h r' s⟩
  · cases q
abbrev BAs := List (Sum (D × Md) (Nat × D))
def SatB (e : Fl.Env) : BAs → BP → Prop
  | [], [] => True
  | .inl a :: as, .inl d :: ps => Is a.1 a.2 d ∧ SatB e as ps
  | .inr p :: as, .inr i :: ps => p.1 = i ∧ SatB e as ps
  | _, _ => False
def xF : XP := fun _ => False
variable {ΨAB : BAs → Ctx → M β → Prop} {bs : List BA}
theorem SatB.env {e e' : Fl.Env} : ∀ {as : BAs} {ps : BP}, SatB e as ps → SatB e' as ps
  | [], [], _ => trivial
  | .inl a :: as, .inl d :: ps, h => ⟨h.1, SatB.env h.2⟩
  | .inr p :: as, .inr i :: ps, h => ⟨h.1, SatB.env h.2⟩
  | [], _ :: _, h => h.elim
  | .inl _ :: _, [], h => h.elim
  | .inr _ :: _, [], h => h.elim
  | .inl _ :: _, .inr _ :: _, h => h.elim
  | .inr _ :: _, .inl _ :: _, h => h.elim
end
end Fl
namespace Fl
open PySem
open Ty (enc)
variable {β : Type}
def KT (Γ : Ctx) (f : Tgt) (x : D) (μ : Md) (Ψ : Ctx → Prop) : Prop := ∀ env d, Sat Γ env → Is x μ d → ∃ e Γ', f d env = some e ∧ Sat Γ' e ∧ Ψ Γ'
theorem sh2_inv {ds : List D} {x y : D} (h : shL ds = [x, y]) : ∃ a b, ds = [a, b] ∧ sh a = x ∧ sh b = y := by
  match ds, h with
  | [a, b], h => simp at h; exact ⟨a, b, rfl, h.1, h.2⟩
  | [], h => simp at h
  | [a], h => simp at h
  | a :: b :: c :: r, h => simp at h
section
variable {Γ : Ctx} {Ψ : Ctx → Prop} {x : D} {μ : Md} {f f1 f2 f3 f4 : Tgt}
theorem kt_n (i : Nat) (h : Ψ (Γ.set i (Is x μ))) : KT Γ (gN i) x μ Ψ := fun env d s hd => ⟨_, _, rfl, s.set hd, h⟩
theorem kt_2 {α γ : Type} [Ty α] [Ty γ] {t : T2 α γ} (h : KT Γ f1 (enc t.a) .any fun Γ1 => KT Γ1 f2 (enc t.b) .any Ψ) : KT Γ (gT 2 (gsC f1 (gsC f2 gsN))) (enc t) μ Ψ := fun env d s hd => by
  obtain ⟨ds, rfl, e⟩ := sh_tup_inv hd.1
  obtain ⟨d1, d2, rfl, ea, eb⟩ := sh2_inv e
  obtain ⟨e1, Γ1, q1, q2, q3⟩ := h env d1 s ⟨ea, rfl⟩
  obtain ⟨e2, Γ2, p1, p2, p3⟩ := q3 e1 d2 q2 ⟨eb, rfl⟩
  exact ⟨e2, Γ2, by simp [q1, p1], p2, p3⟩
theorem kt_2c {α γ : Type} [Ty α] [Ty γ] {t : T2 α γ} (h : KT Γ f1 (enc t.a) .cl fun Γ1 => KT Γ1 f2 (enc t.b) .cl Ψ) : KT Γ (gT 2 (gsC f1 (gsC f2 gsN))) (enc t) .cl Ψ := fun env d s hd => by
  obtain ⟨ds, rfl, e⟩ := sh_tup_inv hd.1
  have hc : cleanL ds = true := by simpa [mdB, clean] using hd.2
  obtain ⟨d1, d2, rfl, ea, eb⟩ := sh2_inv e
  simp [cleanL] at hc
  obtain ⟨e1, Γ1, q1, q2, q3⟩ := h env d1 s ⟨ea, hc.1⟩
  obtain ⟨e2, Γ2, p1, p2, p3⟩ := q3 e1 d2 q2 ⟨eb, hc.2⟩
  exact ⟨e2, Γ2, by simp [q1, p1], p2, p3⟩
end
def rg (a b : Int) : List Int := (List.range (b - a).toNat).map fun i => a + (i : Nat)
def rgM (a b : Int) : M (List Int) := if -1000000 ≤ a ∧ a ≤ 1000000 ∧ -1000000 ≤ b ∧ b ≤ 1000000 then .ok (rg a b) else .no
theorem rangeD_enc (a : Int) (n : Nat) : shL (rangeD a n) = ((List.range n).map fun i => a + (i : Nat)).map (fun i => (enc i : D)) := by
  unfold rangeD
  rw [shLmap, List.map_map, List.map_map]
  rfl
section
variable {X : XP} {Γ : Ctx} {w : M β} {ΨI : List D → Ctx → M β → Prop} {m : Exp} {ms : Arg}
theorem ki_R1 (h : KA X Γ ms w fun as Γ1 w1 => ∃ (n : Int) (μ : Md) (k : List Int → M β), as = [(enc n, μ)] ∧ w1 = (rgM 0 n).bind k ∧ ∀ xs, ΨI (xs.map enc) Γ1 (k xs)) : KI X Γ (iR1 ms) w ΨI := fun env s hw => by
  unfold iR1
  rcases h env s hw with ⟨ds, e, as, Γ', e1, e2, e3, n, μ, k, rfl, rfl, e6⟩ | ⟨c, es, e, e1, e2, e3⟩
  · match ds, e2 with
    | [d], e2 =>
      obtain ⟨rfl, _⟩ := e2.1.flat
      unfold rgM at hw ⊢
      split
      · rename_i hc
        refine .inl ⟨rangeD 0 n.toNat, e, Γ', by rw [e1]; simp [hc.2.2], e3, ?_⟩
        have : shL (rangeD 0 n.toNat) = (rg 0 n).map (fun i => (enc i : D)) := by rw [rangeD_enc]; unfold rg; simp
        rw [this]
        exact e6 (rg 0 n)
      · rename_i hc; rw [if_neg hc] at hw; exact absurd rfl hw
  · exact .inr ⟨c, es, e, by rw [e1]; rfl, e2, e3⟩
theorem ki_R2 (h : KA X Γ ms w fun as Γ1 w1 => ∃ (a b : Int) (μ ν : Md) (k : List Int → M β), as = [(enc a, μ), (enc b, ν)] ∧ w1 = (rgM a b).bind k ∧ ∀ xs, ΨI (xs.map enc) Γ1 (k xs)) : KI X Γ (iR2 ms) w ΨI := fun env s hw => by
  unfold iR2
  rcases h env s hw with ⟨ds, e, as, Γ', e1, e2, e3, a, b, μ, ν, k, rfl, rfl, e6⟩ | ⟨c, es, e, e1, e2, e3⟩
  · match ds, e2 with
    | [d, d'], e2 =>
      obtain ⟨rfl, _⟩ := e2.1.flat
      obtain ⟨rfl, _⟩ := e2.2.1.flat
      unfold rgM at hw ⊢
      split
      · rename_i hc
        refine .inl ⟨rangeD a (b - a).toNat, e, Γ', by rw [e1]; simp [hc], e3, ?_⟩
        rw [rangeD_enc]
        exact e6 (rg a b)
      · rename_i hc; rw [if_neg hc] at hw; exact absurd rfl hw
  · exact .inr ⟨c, es, e, by rw [e1]; rfl, e2, e3⟩
theorem ki_L (h : KE X Γ m w fun x _ Γ1 w1 => ∃ ys, lsD x = some ys ∧ ΨI ys Γ1 w1) : KI X Γ (iL m) w ΨI := fun env s hw => by
  unfold iL
  rcases h env s hw with ⟨d, e, x, μ, Γ', e1, e2, e3, ys, e4, e5⟩ | ⟨c, es, e, e1, e2, e3⟩
  · rw [e1]
    obtain ⟨rfl, _⟩ := e2
    cases d <;> simp [sh, lsD] at e4
    · subst e4; exact .inl ⟨_, e, Γ', rfl, e3, by rw [shLshL]; exact e5⟩
    · subst e4; exact .inl ⟨_, e, Γ', rfl, e3, e5⟩
  · exact .inr ⟨c, es, e, by rw [e1]; rfl, e2, e3⟩
def zp {α γ : Type} (xs : List α) (ys : List γ) : List (T2 α γ) := List.zipWith T2.mk xs ys
theorem zip_enc {α γ : Type} [Ty α] [Ty γ] : ∀ (xs : List α) (ys : List γ), shL (zipD (xs.map enc) (ys.map enc)) = (zp xs ys).map enc
  | [], _ => rfl
  | _ :: _, [] => rfl
  | x :: xs, y :: ys => by
    have ih := zip_enc xs ys
    unfold zipD zp at ih ⊢
    simp only [List.map_cons, List.zipWith_cons_cons, shL_cons, ih, sh_tup, shL_nil, Ty.can]
    rfl
theorem lsD_sh {α : Type} [Ty α] {xs : List α} {d : D} {μ : Md} (h : Is (enc xs) μ d) : lsD (sh d) = some (xs.map enc) := by rw [h.1]; rfl
theorem ki_Z {α γ : Type} [Ty α] [Ty γ] (h : KA X Γ ms w fun as Γ1 w1 => ∃ (xs : List α) (ys : List γ) (μ ν : Md), as = [(enc xs, μ), (enc ys, ν)] ∧ ΨI ((zp xs ys).map enc) Γ1 w1) : KI X Γ (iZ ms) w ΨI := fun env s hw => by
  unfold iZ
  rcases h env s hw with ⟨ds, e, as, Γ', e1, e2, e3, xs, ys, μ, ν, rfl, e6⟩ | ⟨c, es, e, e1, e2, e3⟩
  · match ds, e2 with
    | [d, d'], e2 =>
      have h1 := lsD_sh (d := d) e2.1
      have h2 := lsD_sh (d := d') e2.2.1
      exact .inl ⟨zipD (xs.map enc) (ys.map enc), e, Γ', by rw [e1]; simp only [Res.bind_ok, h1, h2], e3, by rw [zip_enc]; exact e6⟩
  · exact .inr ⟨c, es, e, by rw [e1]; rfl, e2, e3⟩
def enm {α : Type} (xs : List α) : List (T2 Int α) := xs.mapIdx fun i a => ⟨(i : Nat), a⟩
theorem enm_enc {α : Type} [Ty α] (xs : List α) : shL (enumD (xs.map enc)) = (enm xs).map enc := by
  unfold enumD enm
  rw [shLmap]
  apply List.ext_getElem?
  intro i
  simp only [List.getElem?_map, List.getElem?_mapIdx]
  cases xs[i]? with
  | none => rfl
  | some a => simp [sh, Ty.can, enc]
theorem ki_E {α : Type} [Ty α] (h : KA X Γ ms w fun as Γ1 w1 => ∃ (xs : List α) (μ : Md), as = [(enc xs, μ)] ∧ ΨI ((enm xs).map enc) Γ1 w1) : KI X Γ (iE ms) w ΨI := fun env s hw => by
  unfold iE
  rcases h env s hw with ⟨ds, e, as, Γ', e1, e2, e3, xs, μ, rfl, e6⟩ | ⟨c, es, e, e1, e2, e3⟩
  · match ds, e2 with
    | [d], e2 =>
      have h1 := lsD_sh (d := d) e2.1
      exact .inl ⟨enumD (xs.map enc), e, Γ', by rw [e1]; simp only [Res.bind_ok, h1], e3, by rw [enm_enc]; exact e6⟩
  · exact .inr ⟨c, es, e, by rw [e1]; rfl, e2, e3⟩
end
structure En (β : Type) where
  rt : M β → D → Fl.Env → Prop
  bk : M β → Fl.Env → Prop
  ct : M β → Fl.Env → Prop
  x : XP
def KS (N : En β) (Γ : Ctx) (s : Stm) (w : M β) (Ψ : Ctx → M β → Prop) : Prop := ∀ env, Sat Γ env → w ≠ .no → match s env with
  | .no => False
  | .nx e => ∃ Γ', Sat Γ' e ∧ Ψ Γ' w
  | .rt d e => N.rt w d e
  | .bk e => N.bk w e
  | .ct e => N.ct w e
  | .ex x e => ∃ c es, x = .exo c es ∧ w = .ex c (shL es) ∧ N.x e
section
variable {N : En β} {Γ : Ctx} {w : M β} {Ψ : Ctx → M β → Prop} {m : Exp} {s u : Stm} {b : Tst} {f : Tgt} {ms : Arg}
theorem ks_pass (h : Ψ Γ w) : KS N Γ sPass w Ψ := fun env s hw => ⟨Γ, s, h⟩
theorem ks_seq (h : KS N Γ s w fun Γ1 w1 => KS N Γ1 u w1 Ψ) : KS N Γ (sSeq s u) w Ψ := fun env sa hw => by
  unfold sSeq
  have := h env sa hw
  revert this
  cases s env with
  | nx e => exact fun ⟨Γ', q1, q2⟩ => q2 e q1 hw
  | no => exact id
  | rt d e => exact id
  | bk e => exact id
  | ct e => exact id
  | ex x e => exact id
theorem ks_asg (h : KE N.x Γ m w fun x μ Γ1 w1 => KT Γ1 f x μ fun Γ2 => Ψ Γ2 w1) : KS N Γ (sAsg m f) w Ψ := fun env sa hw => by
  unfold sAsg
  rcases h env sa hw with ⟨d, e, x, μ, Γ', e1, e2, e3, e4⟩ | ⟨c, es, e, e1, e2, e3⟩
  · obtain ⟨e', Γ2, q1, q2, q3⟩ := e4 e d e3 e2
    rw [e1]; simp only [q1]; exact ⟨Γ2, q2, q3⟩
  · rw [e1]; exact ⟨c, es, rfl, e2, e3⟩
theorem ks_par {i j : Nat} (h : KA N.x Γ ms w fun as Γ1 w1 => ∃ x μ y ν, as = [(x, μ), (y, ν)] ∧ Ψ ((Γ1.set i (Is x μ)).set j (Is y ν)) w1) : KS N Γ (sPar i j ms) w Ψ := fun env sa hw => by
  unfold sPar
  rcases h env sa hw with ⟨ds, e, as, Γ', e1, e2, e3, x, μ, y, ν, rfl, e4⟩ | ⟨c, es, e, e1, e2, e3⟩
  · match ds, e2 with
    | [d, d'], e2 => rw [e1]; exact ⟨_, (e3.set e2.1).set e2.2.1, e4⟩
  · rw [e1]; exact ⟨c, es, rfl, e2, e3⟩
/-- at most one way falls through, or none -/
theorem ks_if (h : KB N.x Γ b w fun t' Γ1 w1 => ∃ t wa wb, t' = t ∧ w1 = (if t then wa else wb) ∧ (t = true → KS N Γ1 s wa Ψ) ∧ (t = false → KS N Γ1 u wb Ψ)) : KS N Γ (sIf b s u) w Ψ := fun env sa hw => by
  unfold sIf
  rcases h env sa hw with ⟨t', e, Γ', e1, e3, t, wa, wb, rfl, rfl, e5, e6⟩ | ⟨c, es, e, e1, e2, e3⟩
  · rw [e1]
    cases t' with
    | true =>
      simp only [if_true] at hw ⊢
      exact e5 rfl e e3 hw
    | false =>
      simp only [Bool.false_eq_true, if_false] at hw ⊢
      exact e6 rfl e e3 hw
  · rw [e1]; exact ⟨c, es, rfl, e2, e3⟩
/-- ends of a part that is told by itself: nothing leaves it -/
def enJ (β : Type) (x : XP) : En β := ⟨fun _ _ _ => False, fun _ _ => False, fun _ _ => False, x⟩
def FinJ {σ : Type} (Δ : σ → Ctx) (Γ : Ctx) (w : M σ) : Prop := ∃ s, w = .ok s ∧ Wk Γ (Δ s)
theorem fj {σ : Type} {Δ : σ → Ctx} {s : σ} (h : Wk Γ (Δ s)) : FinJ Δ Γ (.ok s) := ⟨s, rfl, h⟩
/-- both ways meet again: what they have changed is told -/
theorem ks_ifJ (h : KB N.x Γ b w fun t' Γ1 w1 => ∃ (σ : Type) (Δ : σ → Ctx) (t : Bool) (va vb : M σ) (k : σ → M β), t' = t ∧ w1 = (if t then va else vb).bind k ∧ (t = true → KS (enJ σ N.x) Γ1 s va (FinJ Δ)) ∧ (t = false → KS (enJ σ N.x) Γ1 u vb (FinJ Δ)) ∧ ∀ r, Ψ (Δ r) (k r)) :
    KS N Γ (sIf b s u) w Ψ := fun env sa hw => by
  unfold sIf
  rcases h env sa hw with ⟨t', e, Γ', e1, e3, σ, Δ, t, va, vb, k, rfl, rfl, e5, e6, e7⟩ | ⟨c, es, e, e1, e2, e3⟩
  · rw [e1]
    have key : ∀ (v : M σ) (st : Stm), v.bind k ≠ .no → KS (enJ σ N.x) Γ' st v (FinJ Δ) → match st e with
        | .no => False
        | .nx e => ∃ Γ', Sat Γ' e ∧ Ψ Γ' (v.bind k)
        | .rt d e => N.rt (v.bind k) d e
        | .bk e => N.bk (v.bind k) e
        | .ct e => N.ct (v.bind k) e
        | .ex x e => ∃ c es, x = .exo c es ∧ v.bind k = .ex c (shL es) ∧ N.x e := fun v st hv hk => by
      have q := hk e e3 fun e => hv (by rw [e]; rfl)
      revert q
      cases st e with
      | nx e' => exact fun ⟨Γ2, q1, r, q2, q3⟩ => ⟨Δ r, q3.sat q1, by rw [q2]; exact e7 r⟩
      | no => exact id
      | rt d e => exact False.elim
      | bk e => exact False.elim
      | ct e => exact False.elim
      | ex x e => exact fun ⟨c, es, q1, q2, q3⟩ => ⟨c, es, q1, by rw [q2]; rfl, q3⟩
    cases t' with
    | true =>
      simp only [if_true] at hw ⊢
      exact key va s hw (e5 rfl)
    | false =>
      simp only [Bool.false_eq_true, if_false] at hw ⊢
      exact key vb u hw (e6 rfl)
  · rw [e1]; exact ⟨c, es, rfl, e2, e3⟩
theorem ks_ret (h : KE N.x Γ m w fun x μ Γ1 w1 => ∀ d e, Is x μ d → Sat Γ1 e → N.rt w1 d e) : KS N Γ (sRet m) w Ψ := fun env sa hw => by
  unfold sRet
  rcases h env sa hw with ⟨d, e, x, μ, Γ', e1, e2, e3, e4⟩ | ⟨c, es, e, e1, e2, e3⟩
  · rw [e1]; exact e4 d e e2 e3
  · rw [e1]; exact ⟨c, es, rfl, e2, e3⟩
def forN {α σ : Type} (f : α → σ → M σ) : List α → σ → M σ
  | [], s => .ok s
  | x :: xs, s => (f x s).bind (forN f xs)
/-- ends of a loop's turn -/
def enL {σ : Type} (Δ : σ → Ctx) (x : XP) : En σ := ⟨fun _ _ _ => False, fun _ _ => False, fun w e => ∃ s, w = .ok s ∧ Sat (Δ s) e, x⟩
theorem forN_run {α σ : Type} [Ty α] {Δ : σ → Ctx} {x : XP} {g : α → σ → M σ} {tg : Tgt} {body : Stm} (h : ∀ a s, KT (Δ s) tg (enc a) .any fun Γ2 => KS (enL Δ x) Γ2 body (g a s) (FinJ Δ)) :
    ∀ (xs : List α) (ds : List D) (s : σ) (env : Fl.Env), shL ds = xs.map enc → Sat (Δ s) env → forN g xs s ≠ .no → (∃ s' e, forN g xs s = .ok s' ∧ forL tg body ds env = .nx e ∧ Sat (Δ s') e) ∨ ∃ c es e, forN g xs s = .ex c (shL es) ∧ forL tg body ds env = .ex (.exo c es) e ∧ x e
  | [], [], s, env, _, hs, _ => .inl ⟨s, env, rfl, rfl, hs⟩
  | a :: xs, d :: ds, s, env, hd, hs, hn => by
    simp at hd
    obtain ⟨e, Γ2, q1, q2, q3⟩ := h a s env d hs ⟨hd.1, rfl⟩
    have hn' : (g a s).bind (forN g xs) ≠ .no := hn
    have hg : g a s ≠ .no := fun e => hn' (by rw [e]; rfl)
    have q4 := q3 e q2 hg
    rw [forL_cons, q1]
    have ih := fun s' e' => forN_run h xs ds s' e' hd.2
    show _ ∨ _
    simp only [forN]
    revert q4
    cases body e with
    | no => exact False.elim
    | nx e' =>
      rintro ⟨Γ', p1, s', p2, p3⟩
      rw [p2] at hn' ⊢
      exact ih s' e' (p3.sat p1) hn'
    | ct e' =>
      rintro ⟨s', p2, p3⟩
      rw [p2] at hn' ⊢
      exact ih s' e' p3 hn'
    | bk e' => exact False.elim
    | rt d' e' => exact False.elim
    | ex x' e' =>
      rintro ⟨c, es, rfl, p2, p3⟩
      rw [p2]
      exact .inr ⟨c, es, e', rfl, rfl, p3⟩
  | [], _ :: _, s, env, hd, _, _ => by simp at hd
  | _ :: _, [], s, env, hd, _, _ => by simp at hd
theorem ks_for {α : Type} [Ty α] {it : Itm} {tg : Tgt} {body : Stm} (h : KI N.x Γ it w fun ds Γ1 w1 => ∃ (σ : Type) (Δ : σ → Ctx) (xs : List α) (s0 : σ) (g : α → σ → M σ) (k : σ → M β), ds = xs.map enc ∧ w1 = (forN g xs s0).bind k ∧ Wk Γ1 (Δ s0) ∧ (∀ a s, KT (Δ s) tg (enc a) .any fun Γ2 => KS (enL Δ N.x) Γ2 body (g a s) (FinJ Δ)) ∧ ∀ s, Ψ (Δ s) (k s)) :
    KS N Γ (sFor it tg body) w Ψ := fun env sa hw => by
  unfold sFor
  rcases h env sa hw with ⟨ds, e, Γ', e1, e3, σ, Δ, xs, s0, g, k, e4, rfl, e5, e6, e7⟩ | ⟨c, es, e, e1, e2, e3⟩
  · rw [e1]
    rcases forN_run e6 xs ds s0 e e4 (e5.sat e3) (fun e => hw (by rw [e]; rfl)) with ⟨s', e', q1, q2, q3⟩ | ⟨c, es, e', q1, q2, q3⟩
    · simp only [q2]; exact ⟨Δ s', q3, by rw [q1]; exact e7 s'⟩
    · simp only [q2]; exact ⟨c, es, rfl, by rw [q1]; rfl, q3⟩
  · rw [e1]; exact ⟨c, es, rfl, e2, e3⟩
/-- a turn may go on, leave the loop, or leave the def -/
inductive Ctl (ρ σ : Type) where
  | nx (s : σ) | bk (s : σ) | rt (r : ρ)
def forC {α ρ σ : Type} (f : α → σ → M (Ctl ρ σ)) : List α → σ → M (Ctl ρ σ)
  | [], s => .ok (.nx s)
  | x :: xs, s => (f x s).bind fun c => match c with
    | .nx s => forC f xs s
    | .bk s => .ok (.nx s)
    | .rt r => .ok (.rt r)
/-- what follows a loop -/
def Ctl.go {ρ σ : Type} (c : Ctl ρ σ) (k : σ → M ρ) : M ρ := match c with
  | .nx s => k s
  | .bk s => k s
  | .rt r => .ok r
@[simp] theorem Ctl.go_nx {ρ σ : Type} (s : σ) (k : σ → M ρ) : (Ctl.nx s : Ctl ρ σ).go k = k s := rfl
@[simp] theorem Ctl.go_bk {ρ σ : Type} (s : σ) (k : σ → M ρ) : (Ctl.bk s : Ctl ρ σ).go k = k s := rfl
@[simp] theorem Ctl.go_rt {ρ σ : Type} (r : ρ) (k : σ → M ρ) : (Ctl.rt r : Ctl ρ σ).go k = .ok r := rfl
def enC {ρ σ : Type} (Δ : σ → Ctx) (N : En ρ) : En (Ctl ρ σ) := ⟨fun w d e => ∃ r, w = .ok (.rt r) ∧ N.rt (.ok r) d e, fun w e => ∃ s, w = .ok (.bk s) ∧ Sat (Δ s) e, fun w e => ∃ s, w = .ok (.nx s) ∧ Sat (Δ s) e, N.x⟩
def FinCt {ρ σ : Type} (Δ : σ → Ctx) (Γ : Ctx) (w : M (Ctl ρ σ)) : Prop := ∃ s, w = .ok (.nx s) ∧ Wk Γ (Δ s)
theorem fct {ρ σ : Type} {Δ : σ → Ctx} {s : σ} (h : Wk Γ (Δ s)) : FinCt (ρ := ρ) Δ Γ (.ok (.nx s)) := ⟨s, rfl, h⟩
theorem forC_run {α σ : Type} [Ty α] {Δ : σ → Ctx} {g : α → σ → M (Ctl β σ)} {tg : Tgt} {body : Stm} (h : ∀ a s, KT (Δ s) tg (enc a) .any fun Γ2 => KS (enC Δ N) Γ2 body (g a s) (FinCt Δ)) :
    ∀ (xs : List α) (ds : List D) (s : σ) (env : Fl.Env), shL ds = xs.map enc → Sat (Δ s) env → forC g xs s ≠ .no → (∃ s' e, forC g xs s = .ok (.nx s') ∧ forL tg body ds env = .nx e ∧ Sat (Δ s') e) ∨ (∃ r d e, forC g xs s = .ok (.rt r) ∧ forL tg body ds env = .rt d e ∧ N.rt (.ok r) d e) ∨
      ∃ c es e, forC g xs s = .ex c (shL es) ∧ forL tg body ds env = .ex (.exo c es) e ∧ N.x e
  | [], [], s, env, _, hs, _ => .inl ⟨s, env, rfl, rfl, hs⟩
  | a :: xs, d :: ds, s, env, hd, hs, hn => by
    simp at hd
    obtain ⟨e, Γ2, q1, q2, q3⟩ := h a s env d hs ⟨hd.1, rfl⟩
    have hn' : forC g (a :: xs) s ≠ .no := hn
    unfold forC at hn' ⊢
    have hg : g a s ≠ .no := fun e => hn' (by rw [e]; rfl)
    have q4 := q3 e q2 hg
    rw [forL_cons, q1]
    have ih := fun s' e' => forC_run h xs ds s' e' hd.2
    dsimp only
    revert q4
    cases body e with
    | no => exact False.elim
    | nx e' =>
      rintro ⟨Γ', p1, s', p2, p3⟩
      rw [p2] at hn' ⊢
      exact ih s' e' (p3.sat p1) hn'
    | ct e' =>
      rintro ⟨s', p2, p3⟩
      rw [p2] at hn' ⊢
      exact ih s' e' p3 hn'
    | bk e' =>
      rintro ⟨s', p2, p3⟩
      rw [p2]
      exact .inl ⟨s', e', rfl, rfl, p3⟩
    | rt d' e' =>
      rintro ⟨r, p2, p3⟩
      rw [p2]
      exact .inr (.inl ⟨r, d', e', rfl, rfl, p3⟩)
    | ex x' e' =>
      rintro ⟨c, es, rfl, p2, p3⟩
      rw [p2]
      exact .inr (.inr ⟨c, es, e', rfl, rfl, p3⟩)
  | [], _ :: _, s, env, hd, _, _ => by simp at hd
  | _ :: _, [], s, env, hd, _, _ => by simp at hd
theorem ks_forC {α : Type} [Ty α] {it : Itm} {tg : Tgt} {body : Stm} (h : KI N.x Γ it w fun ds Γ1 w1 => ∃ (σ : Type) (Δ : σ → Ctx) (xs : List α) (s0 : σ) (g : α → σ → M (Ctl β σ)) (k : σ → M β), ds = xs.map enc ∧ w1 = (forC g xs s0).bind (fun c => c.go k) ∧ Wk Γ1 (Δ s0) ∧ (∀ a s, KT (Δ s) tg (enc a) .any fun Γ2 => KS (enC Δ N) Γ2 body (g a s) (FinCt Δ)) ∧ ∀ s, Ψ (Δ s) (k s)) :
    KS N Γ (sFor it tg body) w Ψ := fun env sa hw => by
  unfold sFor
  rcases h env sa hw with ⟨ds, e, Γ', e1, e3, σ, Δ, xs, s0, g, k, e4, rfl, e5, e6, e7⟩ | ⟨c, es, e, e1, e2, e3⟩
  · rw [e1]
    rcases forC_run e6 xs ds s0 e e4 (e5.sat e3) (fun e => hw (by rw [e]; rfl)) with ⟨s', e', q1, q2, q3⟩ | ⟨r, d, e', q1, q2, q3⟩ | ⟨c, es, e', q1, q2, q3⟩
    · simp only [q2]; exact ⟨Δ s', q3, by rw [q1]; exact e7 s'⟩
    · simp only [q2]; rw [q1]; exact q3
    · simp only [q2]; exact ⟨c, es, rfl, by rw [q1]; rfl, q3⟩
  · rw [e1]; exact ⟨c, es, rfl, e2, e3⟩
/-- while; c tells the test, f a turn -/
def whF {ρ σ : Type} (c : σ → M Bool) (f : σ → M (Ctl ρ σ)) : Nat → σ → M (Ctl ρ σ)
  | 0, _ => .no
  | n + 1, s => (c s).bind fun t => if t then (f s).bind fun r => match r with
      | .nx s => whF c f n s
      | .bk s => .ok (.nx s)
      | .rt r => .ok (.rt r)
    else .ok (.nx s)
open Classical in
noncomputable def whM {ρ σ : Type} (c : σ → M Bool) (f : σ → M (Ctl ρ σ)) (s : σ) : M (Ctl ρ σ) := if h : ∃ n, whF c f n s ≠ .no then whF c f (choose h) s else .no
theorem whF_up {ρ σ : Type} {c : σ → M Bool} {f : σ → M (Ctl ρ σ)} : ∀ {n : Nat} {s : σ}, whF c f n s ≠ .no → whF c f (n + 1) s = whF c f n s
  | 0, s, h => absurd rfl h
  | n + 1, s, h => by
    rw [whF]
    rw [whF] at h
    conv => rhs; rw [whF]
    cases hc : c s with
    | no => rfl
    | ex c ds => rfl
    | ok t =>
      rw [hc] at h
      cases t with
      | false => rfl
      | true =>
        simp only [M.ok_bind, if_true] at h ⊢
        cases hf : f s with
        | no => rfl
        | ex c ds => rfl
        | ok r =>
          rw [hf] at h
          cases r with
          | nx s' =>
            have h' : whF c f n s' ≠ .no := h
            exact whF_up h'
          | bk s' => rfl
          | rt r' => rfl
theorem whF_le {ρ σ : Type} {c : σ → M Bool} {f : σ → M (Ctl ρ σ)} {n k : Nat} {s : σ} (h : whF c f n s ≠ .no) (hk : n ≤ k) : whF c f k s = whF c f n s := by
  induction hk with
  | refl => rfl
  | step _ ih => rw [whF_up (by rw [ih]; exact h), ih]
theorem whM_eq {ρ σ : Type} {c : σ → M Bool} {f : σ → M (Ctl ρ σ)} {n : Nat} {s : σ} (h : whF c f n s ≠ .no) : whM c f s = whF c f n s := by
  unfold whM
  have hx : ∃ n, whF c f n s ≠ .no := ⟨n, h⟩
  rw [dif_pos hx]
  have h2 := Classical.choose_spec hx
  rcases Nat.le_total n (Classical.choose hx) with q | q
  · exact whF_le h q
  · exact (whF_le h2 q).symm
theorem whM_no {ρ σ : Type} {c : σ → M Bool} {f : σ → M (Ctl ρ σ)} {s : σ} (h : whM c f s ≠ .no) : ∃ n, whF c f n s = whM c f s := by
  unfold whM at h ⊢
  by_cases hx : ∃ n, whF c f n s ≠ .no
  · rw [dif_pos hx]; exact ⟨_, rfl⟩
  · rw [dif_neg hx] at h; exact absurd rfl h
theorem whF_run {σ : Type} {Δ : σ → Ctx} {c : σ → M Bool} {g : σ → M (Ctl β σ)} {t : Tst} {body : Stm} (hc : ∀ s, KB N.x (Δ s) t (c s) fun b Γ1 w1 => w1 = .ok b ∧ Wk Γ1 (Δ s)) (hb : ∀ s, c s = .ok true → KS (enC Δ N) (Δ s) body (g s) (FinCt Δ)) :
    ∀ (n : Nat) (s : σ) (env : Fl.Env), Sat (Δ s) env → whF c g n s ≠ .no → (∃ s' e, whF c g n s = .ok (.nx s') ∧ whileN t body n env = .nx e ∧ Sat (Δ s') e) ∨ (∃ r d e, whF c g n s = .ok (.rt r) ∧ whileN t body n env = .rt d e ∧ N.rt (.ok r) d e) ∨
      ∃ c' es e, whF c g n s = .ex c' (shL es) ∧ whileN t body n env = .ex (.exo c' es) e ∧ N.x e
  | 0, s, env, _, hn => absurd rfl hn
  | n + 1, s, env, hs, hn => by
    rw [whF] at hn ⊢
    rw [whileN]
    have hcn : c s ≠ .no := fun e => hn (by rw [e]; rfl)
    rcases hc s env hs hcn with ⟨b, e, Γ', e1, e3, e4, e5⟩ | ⟨c', es, e, e1, e2, e3⟩
    · rw [e4] at hn ⊢
      rw [e1]
      dsimp only
      cases b with
      | false => exact .inl ⟨s, e, rfl, by simp, e5.sat e3⟩
      | true =>
        simp only [M.ok_bind, if_true] at hn ⊢
        have hg : g s ≠ .no := fun e => hn (by rw [e]; rfl)
        have q4 := hb s e4 e (e5.sat e3) hg
        have ih := fun s' e' => whF_run hc hb n s' e'
        revert q4
        cases body e with
        | no => exact False.elim
        | nx e' =>
          rintro ⟨Γ', p1, s', p2, p3⟩
          rw [p2] at hn ⊢
          exact ih s' e' (p3.sat p1) hn
        | ct e' =>
          rintro ⟨s', p2, p3⟩
          rw [p2] at hn ⊢
          exact ih s' e' p3 hn
        | bk e' =>
          rintro ⟨s', p2, p3⟩
          rw [p2]
          exact .inl ⟨s', e', rfl, rfl, p3⟩
        | rt d' e' =>
          rintro ⟨r, p2, p3⟩
          rw [p2]
          exact .inr (.inl ⟨r, d', e', rfl, rfl, p3⟩)
        | ex x' e' =>
          rintro ⟨c', es, rfl, p2, p3⟩
          rw [p2]
          exact .inr (.inr ⟨c', es, e', rfl, rfl, p3⟩)
    · rw [e2, e1]
      exact .inr (.inr ⟨c', es, e, rfl, rfl, e3⟩)
theorem ks_while {σ : Type} (Δ : σ → Ctx) {s0 : σ} {c : σ → M Bool} {g : σ → M (Ctl β σ)} {k : σ → M β} {t : Tst} {body : Stm} (hw0 : Wk Γ (Δ s0)) (hc : ∀ s, KB N.x (Δ s) t (c s) fun b Γ1 w1 => w1 = .ok b ∧ Wk Γ1 (Δ s)) (hb : ∀ s, c s = .ok true → KS (enC Δ N) (Δ s) body (g s) (FinCt Δ)) (hk : ∀ s, Ψ (Δ s) (k s)) :
    KS N Γ (sWhile t body) ((whM c g s0).bind fun c => c.go k) Ψ := fun env sa hw => by
  have hv : whM c g s0 ≠ .no := fun e => hw (by rw [e]; rfl)
  obtain ⟨n, hn⟩ := whM_no hv
  rw [← hn] at hv hw ⊢
  rcases whF_run hc hb n s0 env (hw0.sat sa) hv with ⟨s', e', q1, q2, q3⟩ | ⟨r, d, e', q1, q2, q3⟩ | ⟨c', es, e', q1, q2, q3⟩
  · rw [sWhile_eq q2 (by simp)]; exact ⟨Δ s', q3, by rw [q1]; exact hk s'⟩
  · rw [sWhile_eq q2 (by simp)]; rw [q1]; exact q3
  · rw [sWhile_eq q2 (by simp)]; exact ⟨c', es, rfl, by rw [q1]; rfl, q3⟩
end
def enF {ρ : Type} [Ty ρ] (ν : Md) : En ρ := ⟨fun w d _ => ∃ r, w = .ok r ∧ Is (enc r) ν d, fun _ _ => False, fun _ _ => False, xT⟩
def enFx {ρ σ : Type} [Ty ρ] [Ty σ] (ν : Md) : En (ρ × σ) := ⟨fun w d e => ∃ r s, w = .ok (r, s) ∧ Is (enc r) ν d ∧ ∃ d0, e[0]? = some d0 ∧ Is (enc s) .cl d0, fun _ _ => False, fun _ _ => False, xT⟩
def FinF {ρ : Type} [Ty ρ] (ν : Md) (Γ : Ctx) (w : M ρ) : Prop := ∃ r, w = .ok r ∧ Is (enc r) ν .non
def FinFx {ρ σ : Type} [Ty ρ] [Ty σ] (ν : Md) (Γ : Ctx) (w : M (ρ × σ)) : Prop := ∃ r s, w = .ok (r, s) ∧ Is (enc r) ν .non ∧ Γ[0]? = some (Is (enc s) .cl)
theorem Sat.tops : ∀ k : Nat, Sat (List.replicate k Tp) (List.replicate k .dead)
  | 0 => trivial
  | k + 1 => ⟨trivial, Sat.tops k⟩
theorem Sat.args : ∀ {ds : List D} {Γ : Ctx} {xs : List D} {e : Fl.Env}, shL ds = xs → Sat Γ e → Sat (xs.map (fun x => Is x .any) ++ Γ) (ds ++ e)
  | [], Γ, xs, e, h, s => by subst h; exact s
  | d :: ds, Γ, xs, e, h, s => by subst h; exact ⟨⟨rfl, rfl⟩, Sat.args rfl s⟩
theorem sfa {ρ : Type} [Ty ρ] {n len : Nat} {b : Stm} {xs : List D} {v : M ρ} {ν : Md} (Γ : Ctx) (h : KS (enF ν) Γ b v (FinF ν)) (hn : xs.length = n := by rfl) (hΓ : xs.map (fun x => Is x .any) ++ List.replicate (len - n) Tp = Γ := by rfl) : SFa (fnM n len false b) xs v ν := fun ds hd hv => by
  have hl : ds.length = n := by rw [shL_len' hd, hn]
  have q := h (ds ++ List.replicate (len - n) .dead) (by rw [← hΓ]; exact Sat.args hd (Sat.tops _)) hv
  unfold fnM
  rw [if_pos hl]
  revert q
  cases b (ds ++ List.replicate (len - n) .dead) with
  | no => exact False.elim
  | nx e => rintro ⟨Γ', _, r, q1, q2⟩; exact .inl ⟨r, .non, _, q1, rfl, q2⟩
  | rt d e => rintro ⟨r, q1, q2⟩; exact .inl ⟨r, d, _, q1, rfl, q2⟩
  | bk e => exact False.elim
  | ct e => exact False.elim
  | ex x e => rintro ⟨c, es, rfl, q1, _⟩; exact .inr ⟨c, es, e, q1, rfl⟩
theorem sfx {ρ σ : Type} [Ty ρ] [Ty σ] {n len : Nat} {b : Stm} {x : D} {xs : List D} {v : M (ρ × σ)} {ν : Md} (Γ : Ctx) (h : KS (enFx ν) Γ b v (FinFx ν)) (hn : xs.length + 1 = n := by rfl) (hΓ : Is x .cl :: (xs.map (fun x => Is x .any) ++ List.replicate (len - n) Tp) = Γ := by rfl) : SFx (fnM n len true b) x xs v ν := fun d0 ds h0 hd hv => by
  have hl : (d0 :: ds).length = n := by rw [List.length_cons, shL_len' hd, hn]
  have q := h (d0 :: ds ++ List.replicate (len - n) .dead) (by rw [← hΓ]; exact ⟨h0, Sat.args hd (Sat.tops _)⟩) hv
  unfold fnM
  rw [if_pos hl]
  revert q
  cases b (d0 :: ds ++ List.replicate (len - n) .dead) with
  | no => exact False.elim
  | nx e =>
    rintro ⟨Γ', s0, r, s, q1, q2, q3⟩
    obtain ⟨d', p1, p2⟩ := s0.at q3
    exact .inl ⟨r, s, .non, d', q1, by simp [List.getD_eq_getElem?_getD, p1], q2, p2⟩
  | rt d e =>
    rintro ⟨r, s, q1, q2, d', p1, p2⟩
    exact .inl ⟨r, s, d, d', q1, by simp [List.getD_eq_getElem?_getD, p1], q2, p2⟩
  | bk e => exact False.elim
  | ct e => exact False.elim
  | ex x e => rintro ⟨c, es, rfl, q1, _⟩; exact .inr ⟨c, es, e, q1, rfl⟩
section
variable {Γ : Ctx}
theorem rtF {ρ : Type} [Ty ρ] {ν μ : Md} {r : ρ} (h : ∀ d, Is (enc r) μ d → Is (enc r) ν d := by exact fun _ h => h) : ∀ d e, Is (enc r) μ d → Sat Γ e → (enF (ρ := ρ) ν).rt (.ok r) d e := fun d e hd _ => ⟨r, rfl, h d hd⟩
theorem rtFx {ρ σ : Type} [Ty ρ] [Ty σ] {ν μ : Md} {r : ρ} {s : σ} (h : ∀ d, Is (enc r) μ d → Is (enc r) ν d := by exact fun _ h => h) (hi : Γ[0]? = some (Is (enc s) .cl) := by rfl) : ∀ d e, Is (enc r) μ d → Sat Γ e → (enFx (ρ := ρ) (σ := σ) ν).rt (.ok (r, s)) d e := fun d e hd he => ⟨r, s, rfl, h d hd, he.at hi⟩
theorem rtC {ρ σ : Type} {N : En ρ} {Δ : σ → Ctx} {r : ρ} {x : D} {μ : Md} (h : ∀ d e, Is x μ d → Sat Γ e → N.rt (.ok r) d e) : ∀ d e, Is x μ d → Sat Γ e → (enC Δ N).rt (.ok (.rt r)) d e := fun d e hd he => ⟨r, rfl, h d e hd he⟩
end
end Fl
namespace Fl
open PySem
open Ty (enc)
theorem is_int {a : Int} {μ : Md} {d : D} (h : Is (enc a) μ d) : d = .int a := h.flat.1
theorem is_bl {a : Bool} {μ : Md} {d : D} (h : Is (enc a) μ d) : d = .bl a := h.flat.1
theorem is_list {α : Type} [Ty α] {xs : List α} {μ : Md} {d : D} (h : Is (enc xs) μ d) : ∃ o ds, d = .lst o ds ∧ shL ds = xs.map enc := sh_lst_inv h.1
theorem is_listO {α : Type} [Ty α] {xs : List α} {μ : Md} {d : D} (h : Is (enc xs) μ d) (hm : μ = .top ∨ μ = .cl) : ∃ ds, d = .lst true ds ∧ shL ds = xs.map enc := by
  obtain ⟨o, ds, rfl, e⟩ := is_list h
  have : o = true := by
    rcases hm with rfl | rfl
    · exact h.2
    · have h2 : (o && cleanL ds) = true := h.2
      simp at h2; exact h2.1
  subst this
  exact ⟨ds, rfl, e⟩
theorem is_listC {α : Type} [Ty α] {xs : List α} {d : D} (h : Is (enc xs) .cl d) : ∃ ds, d = .lst true ds ∧ shL ds = xs.map enc ∧ cleanL ds = true := by
  obtain ⟨ds, rfl, e⟩ := is_listO h (.inr rfl)
  have h2 : (true && cleanL ds) = true := h.2
  exact ⟨ds, rfl, e, by simpa using h2⟩
theorem flatL {α : Type} [Ty α] [Flat α] : ∀ {xs : List α} {ds : List D}, shL ds = xs.map enc → cleanL ds = true ∧ ds = xs.map enc
  | [], [], _ => ⟨rfl, rfl⟩
  | x :: xs, d :: ds, h => by
    simp at h
    have f : Is (enc x) .any d := ⟨h.1, rfl⟩
    obtain ⟨f1, f2, _⟩ := f.flat
    obtain ⟨g1, g2⟩ := flatL (xs := xs) h.2
    exact ⟨by simp [cleanL, f2, g1], by rw [List.map_cons, ← f1, ← g2]⟩
  | [], _ :: _, h => by simp at h
  | _ :: _, [], h => by simp at h
/-- a list's own place is its own where its things hold no lists -/
theorem cl_of_top {α : Type} [Ty α] [Flat α] {xs : List α} {d : D} (h : Is (enc xs) .top d) : Is (enc xs) .cl d := by
  obtain ⟨ds, rfl, e⟩ := is_listO h (.inl rfl)
  exact ⟨h.1, by simp [mdB, clean, (flatL e).1]⟩
theorem is_lst {α : Type} [Ty α] {xs : List α} {ds : List D} (h : shL ds = xs.map enc) : Is (enc xs) .top (.lst true ds) := ⟨by simp [sh, h, enc_list], rfl⟩
theorem is_lstC {α : Type} [Ty α] {xs : List α} {ds : List D} (h : shL ds = xs.map enc) (hc : cleanL ds = true) : Is (enc xs) .cl (.lst true ds) := ⟨by simp [sh, h, enc_list], by simp [mdB, clean, hc]⟩
theorem is_lstF {α : Type} [Ty α] [Flat α] {xs : List α} {ds : List D} (h : shL ds = xs.map enc) : Is (enc xs) .cl (.lst true ds) := is_lstC h (flatL h).1
section
variable {μ ν : Md}
theorem o_add {a b : Int} : Op2P addD (enc a) μ (enc b) ν (a + b) .cl := fun d1 d2 h1 h2 => by
  rw [is_int h1, is_int h2]; exact ⟨_, rfl, is_flat (a + b)⟩
theorem o_sub {a b : Int} : Op2P fSub (enc a) μ (enc b) ν (a - b) .cl := fun d1 d2 h1 h2 => by
  rw [is_int h1, is_int h2]; exact ⟨_, rfl, is_flat (a - b)⟩
def mulI (a b : Int) : M Int := if a.natAbs.log2 + b.natAbs.log2 < 1000000 then .ok (a * b) else .no
def divI (a b : Int) : M Int := if b ≠ 0 then .ok (a.fdiv b) else .no
def modI (a b : Int) : M Int := if b ≠ 0 then .ok (a.fmod b) else .no
def powI (a b : Int) : M Int := if 0 ≤ b ∧ b ≤ 1000000 ∧ a.natAbs < 2 ^ 64 then .ok (a ^ b.toNat) else .no
theorem o_mul {a b : Int} : Op2 mulD (enc a) μ (enc b) ν (mulI a b) .cl := fun d1 d2 h1 h2 hv => by
  rw [is_int h1, is_int h2]
  unfold mulI at hv ⊢
  split at hv
  · rename_i h; exact ⟨_, _, if_pos h, if_pos h, is_flat (a * b)⟩
  · exact absurd rfl hv
theorem o_div {a b : Int} : Op2 fDiv (enc a) μ (enc b) ν (divI a b) .cl := fun d1 d2 h1 h2 hv => by
  rw [is_int h1, is_int h2]
  unfold divI at hv ⊢
  split at hv
  · rename_i h; exact ⟨_, _, if_pos h, if_pos h, is_flat (a.fdiv b)⟩
  · exact absurd rfl hv
theorem o_mod {a b : Int} : Op2 fMod (enc a) μ (enc b) ν (modI a b) .cl := fun d1 d2 h1 h2 hv => by
  rw [is_int h1, is_int h2]
  unfold modI at hv ⊢
  split at hv
  · rename_i h; exact ⟨_, _, if_pos h, if_pos h, is_flat (a.fmod b)⟩
  · exact absurd rfl hv
theorem o_pow {a b : Int} : Op2 fPow (enc a) μ (enc b) ν (powI a b) .cl := fun d1 d2 h1 h2 hv => by
  rw [is_int h1, is_int h2]
  unfold powI at hv ⊢
  split at hv
  · rename_i h; exact ⟨_, _, if_pos h, if_pos h, is_flat (a ^ b.toNat)⟩
  · exact absurd rfl hv
theorem o_lt {a b : Int} : Op2P fLt (enc a) μ (enc b) ν (decide (a < b)) .cl := fun d1 d2 h1 h2 => by
  rw [is_int h1, is_int h2]; exact ⟨_, rfl, is_flat (decide (a < b))⟩
theorem o_gt {a b : Int} : Op2P fGt (enc a) μ (enc b) ν (decide (b < a)) .cl := fun d1 d2 h1 h2 => by
  rw [is_int h1, is_int h2]; exact ⟨_, rfl, is_flat (decide (b < a))⟩
theorem o_neg {a : Int} : Op1P fNeg (enc a) μ (-a) .cl := fun d h => by
  rw [is_int h]; exact ⟨_, rfl, is_flat (-a)⟩
def catL {α : Type} (xs ys : List α) : M (List α) := if xs.length + ys.length ≤ 100000 then .ok (xs ++ ys) else .no
theorem shLapp (a b : List D) : shL (a ++ b) = shL a ++ shL b := by rw [shLmap, shLmap, shLmap, List.map_append]
variable {α γ : Type} [Ty α] [Ty γ]
theorem len_enc {xs : List α} {ds : List D} (h : shL ds = xs.map enc) : ds.length = xs.length := by rw [shL_len' h, List.length_map]
theorem o_addL {xs ys : List α} : Op2 addD (enc xs) μ (enc ys) ν (catL xs ys) .top := fun d1 d2 h1 h2 hv => by
  obtain ⟨o1, ds1, rfl, e1⟩ := is_list h1
  obtain ⟨o2, ds2, rfl, e2⟩ := is_list h2
  unfold catL at hv ⊢
  split at hv
  · rename_i h; exact ⟨_, _, if_pos h, if_pos (by rw [len_enc e1, len_enc e2]; exact h), is_lst (by rw [shLapp, e1, e2, List.map_append])⟩
  · exact absurd rfl hv
theorem o_addLF [Flat α] {xs ys : List α} : Op2 addD (enc xs) μ (enc ys) ν (catL xs ys) .cl := fun d1 d2 h1 h2 hv => by
  obtain ⟨c, e, q1, q2, q3⟩ := o_addL d1 d2 h1 h2 hv
  exact ⟨c, e, q1, q2, cl_of_top q3⟩
/-- [x] * n -/
def repL {α : Type} (xs : List α) (n : Int) : M (List α) := if n ≤ 1000000 ∧ -1000000 ≤ n ∧ xs.length * n.toNat ≤ 100000 then .ok (List.replicate n.toNat xs).flatten else .no
theorem o_rep [Flat α] {xs : List α} {n : Int} : Op2 mulD (enc xs) μ (enc n) ν (repL xs n) .cl := fun d1 d2 h1 h2 hv => by
  obtain ⟨o1, ds1, rfl, e1⟩ := is_list h1
  rw [is_int h2]
  obtain ⟨c1, rfl⟩ := flatL e1
  have ho : ownL (xs.map (fun a => (enc a : D))) = false := (cleanL_sh _ (by rw [e1]; exact c1)).2.1
  unfold repL at hv ⊢
  split at hv
  · rename_i h
    refine ⟨_, _, if_pos h, if_pos ⟨h.1, h.2.1, by simpa using h.2.2, ho⟩, is_lstF ?_⟩
    rw [shLmap, List.map_flatten, List.map_replicate, List.map_flatten, List.map_replicate]
    congr 2
    rw [List.map_map]
    exact List.map_congr_left fun a _ => Ty.can a
  · exact absurd rfl hv
class EqT (α : Type) [Ty α] where
  py : α → PyData
  to : ∀ a, toPy (enc a) = some (py a)
  dep : Nat
  hdep : ∀ a, (py a).depth ≤ dep
  lay : ∀ a, (py a).canLay0 = true
  eq : ∀ a b, PyData.eqv (py a) (py b) = true ↔ a = b
open EqT (py)
end
theorem eqD_sh {a b x y : D} (h1 : sh a = x) (h2 : sh b = y) : eqD a b = eqD x y := by
  subst h1 h2
  have e : ∀ a b : D, strEq (sh a) (sh b) = strEq a b := fun a b => by cases a <;> cases b <;> rfl
  unfold eqD eqP
  rw [e, toPy_sh, toPy_sh]
section
variable {μ ν : Md} {α γ δ : Type} [Ty α] [Ty γ] [Ty δ]
theorem eqD_enc [EqT α] {a b : α} (hd : EqT.dep α ≤ 64) : eqD (enc a) (enc b) = some (PyData.eqv (EqT.py a) (EqT.py b)) := eqD_of (EqT.to a) (EqT.to b) (EqT.lay a) (EqT.lay b) (Nat.le_trans (EqT.hdep a) hd) (Nat.le_trans (EqT.hdep b) hd)
theorem eqv_dec [EqT α] [DecidableEq α] (a b : α) : PyData.eqv (EqT.py a) (EqT.py b) = decide (a = b) := by
  have := EqT.eq a b
  by_cases h : a = b
  · simp [h, this.mpr h, (EqT.eq b b).mpr rfl]
  · rw [decide_eq_false h]
    cases e : PyData.eqv (EqT.py a) (EqT.py b) with
    | false => rfl
    | true => exact absurd (this.mp e) h
theorem o_eq [EqT α] [DecidableEq α] {a b : α} (hd : EqT.dep α ≤ 64 := by decide) : Op2P fEq (enc a) μ (enc b) ν (decide (a = b)) .cl := fun d1 d2 h1 h2 => by
  refine ⟨.bl (decide (a = b)), ?_, is_flat (decide (a = b))⟩
  unfold fEq
  rw [eqD_sh h1.1 h2.1, eqD_enc hd, eqv_dec]; rfl
theorem o_ne [EqT α] [DecidableEq α] {a b : α} (hd : EqT.dep α ≤ 64 := by decide) : Op2P fNe (enc a) μ (enc b) ν (!decide (a = b)) .cl := fun d1 d2 h1 h2 => by
  refine ⟨.bl (!decide (a = b)), ?_, is_flat (!decide (a = b))⟩
  unfold fNe
  rw [eqD_sh h1.1 h2.1, eqD_enc hd, eqv_dec]; rfl
end
instance : EqT Int := ⟨.int, fun _ => rfl, 0, fun _ => by simp [PyData.depth], fun _ => rfl, fun a b => by simp [PyData.eqv]⟩
instance : EqT Bool := ⟨.bool, fun _ => rfl, 0, fun _ => by simp [PyData.depth], fun _ => rfl, fun a b => by simp [PyData.eqv]⟩
instance : EqT Unit := ⟨fun _ => .none, fun _ => rfl, 0, fun _ => by simp [PyData.depth], fun _ => rfl, fun a b => by simp [PyData.eqv]⟩
theorem rat_eq (a b : Rat) : (a.num = b.num ∧ (a.den : Int) = b.den) ↔ a = b := by
  constructor
  · rintro ⟨h1, h2⟩; exact Rat.ext h1 (by omega)
  · rintro rfl; exact ⟨rfl, rfl⟩
instance : EqT Rat := ⟨fun q => .tuple [.int q.num, .int (q.den : Int)], fun _ => rfl, 1, fun _ => by simp [PyData.depth, PyData.depthAll], fun _ => rfl, fun a b => by rw [← rat_eq]; simp [PyData.eqv, PyData.eqvAll]⟩
section
variable {α γ δ : Type} [Ty α] [Ty γ] [Ty δ] [EqT α] [EqT γ] [EqT δ]
instance : EqT (T2 α γ) := ⟨fun t => .tuple [EqT.py t.a, EqT.py t.b], fun t => by simp [enc, toPy, toPyL, EqT.to], 1 + max (EqT.dep α) (EqT.dep γ), fun t => by
    have := EqT.hdep t.a; have := EqT.hdep t.b
    simp [PyData.depth, PyData.depthAll]; omega, fun t => by simp [PyData.canLay0, PyData.canLayAll0, EqT.lay], fun a b => by
    cases a; cases b; simp [PyData.eqv, PyData.eqvAll, EqT.eq]⟩
instance : EqT (T3 α γ δ) := ⟨fun t => .tuple [EqT.py t.a, EqT.py t.b, EqT.py t.c], fun t => by simp [enc, toPy, toPyL, EqT.to], 1 + max (EqT.dep α) (max (EqT.dep γ) (EqT.dep δ)), fun t => by
    have := EqT.hdep t.a; have := EqT.hdep t.b; have := EqT.hdep t.c
    simp [PyData.depth, PyData.depthAll]; omega, fun t => by simp [PyData.canLay0, PyData.canLayAll0, EqT.lay], fun a b => by
    cases a; cases b; simp [PyData.eqv, PyData.eqvAll, EqT.eq]⟩
instance : EqT (F2 α γ) := ⟨fun t => .list [EqT.py t.a, EqT.py t.b], fun t => by simp [enc, toPy, toPyL, EqT.to], 1 + max (EqT.dep α) (EqT.dep γ), fun t => by
    have := EqT.hdep t.a; have := EqT.hdep t.b
    simp [PyData.depth, PyData.depthAll]; omega, fun t => by simp [PyData.canLay0, PyData.canLayAll0, EqT.lay], fun a b => by
    cases a; cases b; simp [PyData.eqv, PyData.eqvAll, EqT.eq]⟩
instance : EqT (F3 α γ δ) := ⟨fun t => .list [EqT.py t.a, EqT.py t.b, EqT.py t.c], fun t => by simp [enc, toPy, toPyL, EqT.to], 1 + max (EqT.dep α) (max (EqT.dep γ) (EqT.dep δ)), fun t => by
    have := EqT.hdep t.a; have := EqT.hdep t.b; have := EqT.hdep t.c
    simp [PyData.depth, PyData.depthAll]; omega, fun t => by simp [PyData.canLay0, PyData.canLayAll0, EqT.lay], fun a b => by
    cases a; cases b; simp [PyData.eqv, PyData.eqvAll, EqT.eq]⟩
instance {ε : Type} [Ty ε] [EqT ε] : EqT (T4 α γ δ ε) := ⟨fun t => .tuple [EqT.py t.a, EqT.py t.b, EqT.py t.c, EqT.py t.d], fun t => by simp [enc, toPy, toPyL, EqT.to], 1 + max (EqT.dep α) (max (EqT.dep γ) (max (EqT.dep δ) (EqT.dep ε))), fun t => by
    have := EqT.hdep t.a; have := EqT.hdep t.b; have := EqT.hdep t.c; have := EqT.hdep t.d
    simp [PyData.depth, PyData.depthAll]; omega, fun t => by simp [PyData.canLay0, PyData.canLayAll0, EqT.lay], fun a b => by
    cases a; cases b; simp [PyData.eqv, PyData.eqvAll, EqT.eq]⟩
instance {ε : Type} [Ty ε] [EqT ε] : EqT (F4 α γ δ ε) := ⟨fun t => .list [EqT.py t.a, EqT.py t.b, EqT.py t.c, EqT.py t.d], fun t => by simp [enc, toPy, toPyL, EqT.to], 1 + max (EqT.dep α) (max (EqT.dep γ) (max (EqT.dep δ) (EqT.dep ε))), fun t => by
    have := EqT.hdep t.a; have := EqT.hdep t.b; have := EqT.hdep t.c; have := EqT.hdep t.d
    simp [PyData.depth, PyData.depthAll]; omega, fun t => by simp [PyData.canLay0, PyData.canLayAll0, EqT.lay], fun a b => by
    cases a; cases b; simp [PyData.eqv, PyData.eqvAll, EqT.eq]⟩
theorem py_listD (xs : List α) : (PyData.list (xs.map EqT.py)).depth ≤ 1 + EqT.dep α := by
  have : PyData.depthAll (xs.map EqT.py) ≤ EqT.dep α := by
    induction xs with
    | nil => simp [PyData.depthAll]
    | cons a xs ih => have := EqT.hdep a; simp [PyData.depthAll]; omega
  simp [PyData.depth]; omega
instance : EqT (List α) := ⟨fun xs => .list (xs.map EqT.py), fun xs => by
    have : toPyL (xs.map fun a => (enc a : D)) = some (xs.map EqT.py) := by
      induction xs with
      | nil => rfl
      | cons a xs ih => simp [toPyL, EqT.to, ih]
    simp [enc, toPy, this], 1 + EqT.dep α, py_listD, fun xs => by
    have : PyData.canLayAll0 (xs.map EqT.py) = true := by
      induction xs with
      | nil => rfl
      | cons a xs ih => simp [PyData.canLayAll0, EqT.lay, ih]
    simp [PyData.canLay0, this], fun xs ys => by
    have : ∀ xs ys : List α, PyData.eqvAll (xs.map EqT.py) (ys.map EqT.py) = true ↔ xs = ys := by
      intro xs
      induction xs with
      | nil => intro ys; cases ys <;> simp [PyData.eqvAll]
      | cons a xs ih => intro ys; cases ys <;> simp [PyData.eqvAll, EqT.eq, ih]
    simp [PyData.eqv, this]⟩
/-- never equal to None -/
class NNE (α : Type) [Ty α] [EqT α] where
  nne : ∀ a : α, PyData.eqv (EqT.py a) .none = false ∧ PyData.eqv .none (EqT.py a) = false
instance : NNE Int := ⟨fun _ => ⟨rfl, rfl⟩⟩
instance : NNE Bool := ⟨fun _ => ⟨rfl, rfl⟩⟩
instance : NNE Rat := ⟨fun _ => ⟨rfl, rfl⟩⟩
instance : NNE (List α) := ⟨fun _ => ⟨rfl, rfl⟩⟩
instance : NNE (T2 α γ) := ⟨fun _ => ⟨rfl, rfl⟩⟩
instance : NNE (T3 α γ δ) := ⟨fun _ => ⟨rfl, rfl⟩⟩
instance : NNE (F2 α γ) := ⟨fun _ => ⟨rfl, rfl⟩⟩
instance : NNE (F3 α γ δ) := ⟨fun _ => ⟨rfl, rfl⟩⟩
instance [NNE α] : EqT (Option α) := ⟨fun o => match o with | none => .none | some a => EqT.py a, fun o => by
    cases o with
    | none => rfl
    | some a => exact EqT.to a, EqT.dep α, fun o => by
    cases o with
    | none => simp [PyData.depth]
    | some a => exact EqT.hdep a, fun o => by
    cases o with
    | none => rfl
    | some a => exact EqT.lay a, fun o p => by
    cases o with
    | none => cases p with
      | none => exact ⟨fun _ => rfl, fun _ => rfl⟩
      | some b => exact ⟨fun h => absurd ((NNE.nne b).2.symm.trans h) (by decide), fun h => by cases h⟩
    | some a => cases p with
      | none => exact ⟨fun h => absurd ((NNE.nne a).1.symm.trans h) (by decide), fun h => by cases h⟩
      | some b => exact (EqT.eq a b).trans ⟨fun h => by rw [h], fun h => by cases h; rfl⟩⟩
end
section
variable {μ ν : Md} {α γ δ : Type} [Ty α] [Ty γ] [Ty δ]
theorem o_len {xs : List α} : OpAP gLen [(enc xs, μ)] (xs.length : Int) .cl := fun ds h => by
  match ds, h with
  | [d], h =>
    obtain ⟨o, ds, rfl, e⟩ := is_list h.1
    exact ⟨.int ds.length, rfl, by rw [len_enc e]; exact is_flat (xs.length : Int)⟩
theorem o_lenX {a : α} {n : Int} (h0 : ∃ xs, itD (enc a) = some xs ∧ (xs.length : Int) = n) : OpAP gLen [(enc a, μ)] n .cl := fun ds h => by
  obtain ⟨xs, h1, h2⟩ := h0
  match ds, h with
  | [d], h =>
    have h0 : sh d = enc a := h.1.1
    refine ⟨.int n, ?_, is_flat n⟩
    rw [← h0] at h1
    have key : ∀ es : List D, shL es = xs → gLen [d] = some (.int es.length) → gLen [d] = some (.int n) := fun es e1 e2 => by
      rw [e2, ← h2, ← e1, shL_len]
    cases d with
    | tup es => exact key es (by simpa [sh, itD] using h1) rfl
    | lst o es => exact key es (by simpa [sh, itD] using h1) rfl
    | frz es => exact key es (by simpa [sh, itD] using h1) rfl
    | _ => simp [sh, itD] at h1
theorem o_abs {a : Int} : OpAP gAbs [(enc a, μ)] (a.natAbs : Int) .cl := fun ds h => by
  match ds, h with
  | [d], h => rw [is_int (a := a) h.1]; exact ⟨_, gAbs_int, is_flat (a.natAbs : Int)⟩
theorem o_max {a b : Int} : OpAP gMax [(enc a, μ), (enc b, ν)] (max a b) .cl := fun ds h => by
  match ds, h with
  | [d, e], h => rw [is_int (a := a) h.1, is_int (a := b) h.2.1]; exact ⟨_, gMax_int, is_flat (max a b)⟩
theorem o_min {a b : Int} : OpAP gMin [(enc a, μ), (enc b, ν)] (min a b) .cl := fun ds h => by
  match ds, h with
  | [d, e], h => rw [is_int (a := a) h.1, is_int (a := b) h.2.1]; exact ⟨_, gMin_int, is_flat (min a b)⟩
def boolI (b : Bool) : Int := if b then 1 else 0
theorem o_int {b : Bool} : OpAP gInt [(enc b, μ)] (boolI b) .cl := fun ds h => by
  match ds, h with
  | [d], h => rw [is_bl (a := b) h.1]; exact ⟨.int (boolI b), by cases b <;> rfl, is_flat (boolI b)⟩
theorem o_lr1 {n : Int} : OpA gLR1 [(enc n, μ)] (rgM 0 n) .cl := fun ds h hv => by
  match ds, h with
  | [d], h =>
    rw [is_int (a := n) h.1]
    unfold rgM at hv ⊢
    split at hv
    · rename_i hc
      have e : shL (rangeD 0 n.toNat) = (rg 0 n).map (fun i => (enc i : D)) := by rw [rangeD_enc]; unfold rg; simp
      exact ⟨_, _, if_pos hc, if_pos hc.2.2, is_lstF e⟩
    · exact absurd rfl hv
def Op1I {γ : Type} [Ty γ] (f : D → Option D) (x : D) (v : M γ) (ν : Md) : Prop := ∀ d, sh d = x → v ≠ .no → ∃ c e, v = .ok c ∧ f (shI d) = some e ∧ Is (enc c) ν e
theorem oi_list {xs : List α} : Op1I gList (enc xs) (M.ok xs) .top := fun d h _ => by
  obtain ⟨o, ds, rfl, e⟩ := sh_lst_inv h
  exact ⟨xs, .lst true (shL ds), rfl, rfl, is_lst (by rw [shLshL]; exact e)⟩
theorem oi_listF [Flat α] {xs : List α} : Op1I gList (enc xs) (M.ok xs) .cl := fun d h hv => by
  obtain ⟨c, e, q1, q2, q3⟩ := oi_list d h hv
  exact ⟨c, e, q1, q2, cl_of_top q3⟩
theorem toInts_enc (xs : List Int) : toInts (xs.map .int) = some xs := by
  induction xs with
  | nil => rfl
  | cons a xs ih => simp [toInts, ih]
theorem toBls_enc (xs : List Bool) : toBls (xs.map .bl) = some xs := by
  induction xs with
  | nil => rfl
  | cons a xs ih => simp [toBls, ih]
theorem lsI {xs : List α} {d : D} (h : sh d = enc xs) : lsD (shI d) = some (xs.map enc) := by
  obtain ⟨o, ds, rfl, e⟩ := sh_lst_inv h
  simp [shI, lsD, e]
theorem oi_sort {xs : List Int} : Op1I gSort (enc xs) (M.ok xs.mergeSort) .cl := fun d h _ => by
  refine ⟨xs.mergeSort, .lst true (xs.mergeSort.map .int), rfl, ?_, is_lstF (by rw [shLmap, List.map_map]; rfl)⟩
  unfold gSort; rw [lsI h]; simp only [Option.bind_some]; rw [show (xs.map enc : List D) = xs.map .int from rfl, toInts_enc]; rfl
theorem oi_all {xs : List Bool} : Op1I gAll (enc xs) (M.ok (xs.all id)) .cl := fun d h _ => by
  refine ⟨xs.all id, .bl (xs.all id), rfl, ?_, is_flat (xs.all id)⟩
  unfold gAll; rw [lsI h]; simp only [Option.bind_some]; rw [show (xs.map enc : List D) = xs.map .bl from rfl, toBls_enc]; rfl
end
section
variable {μ ν : Md}
theorem inV_int (a : Int) (xs : List Int) : L2.inV (.int a) (xs.map L2.V.int) = decide (a ∈ xs) := by
  unfold L2.inV
  rw [List.any_map, Bool.eq_iff_iff]
  simp only [List.any_eq_true, Function.comp, L2.eqV, beq_iff_eq, decide_eq_true_eq]
  exact ⟨fun ⟨x, h1, h2⟩ => h2 ▸ h1, fun h => ⟨a, h, rfl⟩⟩
theorem valsD_int (xs : List Int) : valsD (xs.map .int) = some (xs.map L2.V.int) := by
  induction xs with
  | nil => rfl
  | cons a xs ih => simp [valsD, ih, Fl.valD]
theorem itD_list {α : Type} [Ty α] [Flat α] {xs : List α} {d : D} (h : Is (enc xs) ν d) : itD d = some (xs.map enc) := by
  obtain ⟨o, ds, rfl, e⟩ := is_list h
  show some ds = _
  rw [(flatL e).2]
theorem o_in {a : Int} {xs : List Int} : Op2P fIn (enc a) μ (enc xs) ν (decide (a ∈ xs)) .cl := fun d1 d2 h1 h2 => by
  rw [is_int h1]
  refine ⟨.bl (decide (a ∈ xs)), ?_, is_flat (decide (a ∈ xs))⟩
  show fInG false _ _ = _
  unfold fInG
  rw [itD_list h2]
  simp only [Fl.valD, Option.bind_some]
  rw [show (xs.map enc : List D) = xs.map .int from rfl, valsD_int]
  simp [inV_int]
theorem o_nin {a : Int} {xs : List Int} : Op2P fNotIn (enc a) μ (enc xs) ν (!decide (a ∈ xs)) .cl := fun d1 d2 h1 h2 => by
  rw [is_int h1]
  refine ⟨.bl (!decide (a ∈ xs)), ?_, is_flat (!decide (a ∈ xs))⟩
  show fInG true _ _ = _
  unfold fInG
  rw [itD_list h2]
  simp only [Fl.valD, Option.bind_some]
  rw [show (xs.map enc : List D) = xs.map .int from rfl, valsD_int]
  simp [inV_int]
end
end Fl
namespace Fl
open PySem
open Ty (enc)
variable {β : Type}
def fltSr {α γ σ : Type} (g : α → σ → M (Option γ × σ)) : List α → σ → M (List γ × σ)
  | [], s => .ok ([], s)
  | a :: xs, s => match g a s with
    | .ok p => match fltSr g xs p.2 with
      | .ok q => .ok (p.1.toList ++ q.1, q.2)
      | _ => .no
    | _ => .no
def mapSr {α γ σ : Type} (g : α → σ → M (γ × σ)) : List α → σ → M (List γ × σ)
  | [], s => .ok ([], s)
  | a :: xs, s => match g a s with
    | .ok p => match mapSr g xs p.2 with
      | .ok q => .ok (p.1 :: q.1, q.2)
      | _ => .no
    | _ => .no
def fltMr {α γ : Type} (g : α → M (Option γ)) : List α → M (List γ)
  | [] => .ok []
  | a :: xs => match g a with
    | .ok p => match fltMr g xs with
      | .ok q => .ok (p.toList ++ q)
      | _ => .no
    | _ => .no
def mapMr {α γ : Type} (g : α → M γ) : List α → M (List γ)
  | [] => .ok []
  | a :: xs => match g a with
    | .ok p => match mapMr g xs with
      | .ok q => .ok (p :: q)
      | _ => .no
    | _ => .no
def fltS {α γ σ : Type} (g : α → σ → M (Option γ × σ)) (xs : List α) (s : σ) : M (List γ × σ) := if xs.length ≤ 100000 then fltSr g xs s else .no
def mapS {α γ σ : Type} (g : α → σ → M (γ × σ)) (xs : List α) (s : σ) : M (List γ × σ) := if xs.length ≤ 100000 then mapSr g xs s else .no
def fltM {α γ : Type} (g : α → M (Option γ)) (xs : List α) : M (List γ) := if xs.length ≤ 100000 then fltMr g xs else .no
def mapM {α γ : Type} (g : α → M γ) (xs : List α) : M (List γ) := if xs.length ≤ 100000 then mapMr g xs else .no
theorem mapSr_flt {α γ σ : Type} {g : α → σ → M (γ × σ)} : ∀ {xs : List α} {s : σ} {r : List γ × σ}, mapSr g xs s = .ok r → fltSr (fun a s => (g a s).bind fun p => .ok (some p.1, p.2)) xs s = .ok r
  | [], s, r, h => h
  | a :: xs, s, r, h => by
    unfold mapSr at h; unfold fltSr
    cases e : g a s with
    | no => rw [e] at h; cases h
    | ex c ds => rw [e] at h; cases h
    | ok p =>
      rw [e] at h
      dsimp only at h
      cases e2 : mapSr g xs p.2 with
      | no => rw [e2] at h; cases h
      | ex c ds => rw [e2] at h; cases h
      | ok q => rw [e2] at h; simp only [M.ok_bind, mapSr_flt e2]; exact h
theorem fltMr_flt {α γ : Type} {g : α → M (Option γ)} : ∀ {xs : List α} {r : List γ}, fltMr g xs = .ok r → fltSr (fun a _ => (g a).bind fun p => .ok (p, ())) xs () = .ok (r, ())
  | [], r, h => by cases h; rfl
  | a :: xs, r, h => by
    unfold fltMr at h; unfold fltSr
    cases e : g a with
    | no => rw [e] at h; cases h
    | ex c ds => rw [e] at h; cases h
    | ok p =>
      rw [e] at h
      dsimp only at h
      cases e2 : fltMr g xs with
      | no => rw [e2] at h; cases h
      | ex c ds => rw [e2] at h; cases h
      | ok q => rw [e2] at h; cases h; simp only [M.ok_bind, fltMr_flt e2]
theorem mapMr_flt {α γ : Type} {g : α → M γ} : ∀ {xs : List α} {r : List γ}, mapMr g xs = .ok r → fltSr (fun a _ => (g a).bind fun p => .ok (some p, ())) xs () = .ok (r, ())
  | [], r, h => by cases h; rfl
  | a :: xs, r, h => by
    unfold mapMr at h; unfold fltSr
    cases e : g a with
    | no => rw [e] at h; cases h
    | ex c ds => rw [e] at h; cases h
    | ok p =>
      rw [e] at h
      dsimp only at h
      cases e2 : mapMr g xs with
      | no => rw [e2] at h; cases h
      | ex c ds => rw [e2] at h; cases h
      | ok q => rw [e2] at h; cases h; simp only [M.ok_bind, mapMr_flt e2]; rfl
def wpC (Γ : Ctx) : List Nat → Ctx
  | [] => Γ
  | i :: vs => (wpC Γ vs).set i Tp
theorem Sat.wipe {Γ : Ctx} {env : Fl.Env} (s : Sat Γ env) : ∀ vs : List Nat, Sat (wpC Γ vs) (wipeD env vs)
  | [] => s
  | i :: vs => (Sat.wipe s vs).set trivial
theorem Sat.back {Γ : Ctx} {old : Fl.Env} : ∀ (vs : List Nat) {e : Fl.Env}, (∀ i ∈ vs, Γ[i]? = some Tp ∨ Γ[i]? = none) → Sat Γ e → Sat Γ (backD old vs e)
  | [], e, _, s => s
  | i :: vs, e, h, s => by
    unfold backD
    refine Sat.back vs (fun j hj => h j (List.mem_cons_of_mem _ hj)) ?_
    cases old[i]? with
    | none => exact s
    | some d =>
      dsimp only
      split
      · exact s
      · rcases h i (by simp) with h | h
        · have := s.set (i := i) (P := Tp) (d := d) trivial
          rwa [set_same h] at this
        · have e1 := s.len
          have := List.getElem?_eq_none_iff.mp h
          rw [List.set_eq_of_length_le (by omega)]; exact s
def FinLc {γ σ : Type} [Ty γ] (Δ : σ → Ctx) (vs : List Nat) (m : Exp) (ν : Md) (t : Bool) (Γ : Ctx) (w : M (Option γ × σ)) : Prop :=
  (t = false → ∃ s, w = .ok (none, s) ∧ Wk (wpC Γ vs) (Δ s)) ∧ (t = true → KE xF Γ m w fun y μ Γ4 w4 => ∃ (b : γ) (s : σ), (∀ d, Is y μ d → Is (enc b) ν d) ∧ w4 = .ok (some b, s) ∧ Wk (wpC Γ4 vs) (Δ s))
theorem lcL_run {α γ σ : Type} [Ty α] [Ty γ] {Δ : σ → Ctx} {ν : Md} {g : α → σ → M (Option γ × σ)} {tg : Tgt} {tt : Tst} {m : Exp} {vs : List Nat} (h : ∀ a s, KT (Δ s) tg (enc a) .any fun Γ2 => KB xF Γ2 tt (g a s) (FinLc Δ vs m ν)) :
    ∀ (xs : List α) (ds : List D) (s : σ) (env : Fl.Env) (r : List γ × σ), shL ds = xs.map enc → Sat (Δ s) env → fltSr g xs s = .ok r → ∃ ys e, lcL tg tt m vs ds env = some (ys, e) ∧ Sat (Δ r.2) e ∧ shL ys = r.1.map enc ∧ (ν = .cl → cleanL ys = true)
  | [], [], s, env, r, _, hs, hr => by cases hr; exact ⟨[], env, rfl, hs, rfl, fun _ => rfl⟩
  | a :: xs, d :: ds, s, env, r, hd, hs, hr => by
    simp at hd
    unfold fltSr at hr
    cases e : g a s with
    | no => rw [e] at hr; cases hr
    | ex c ds => rw [e] at hr; cases hr
    | ok p =>
      rw [e] at hr
      dsimp only at hr
      cases e2 : fltSr g xs p.2 with
      | no => rw [e2] at hr; cases hr
      | ex c ds => rw [e2] at hr; cases hr
      | ok q =>
        rw [e2] at hr
        cases hr
        obtain ⟨env1, Γ2, t1, t2, t3⟩ := h a s env d hs ⟨hd.1, rfl⟩
        rw [e] at t3
        unfold lcL
        rw [t1]
        dsimp only
        rcases t3 env1 t2 (by simp) with ⟨b, env2, Γ3, q1, q2, q3, q4⟩ | ⟨_, _, _, _, q, _⟩
        · rw [q1]
          dsimp only
          cases b with
          | false =>
            obtain ⟨s', g1, g2⟩ := q3 rfl
            cases g1
            obtain ⟨ys, e', i1, i2, i3, i4⟩ := lcL_run h xs ds s' (wipeD env2 vs) q hd.2 (g2.sat (q2.wipe vs)) e2
            exact ⟨ys, e', by simp [i1], i2, by simpa using i3, i4⟩
          | true =>
            rcases q4 rfl env2 q2 (by simp) with ⟨y, env3, x, μ, Γ4, p1, p2, p3, b', s', p4, p5, p6⟩ | ⟨_, _, _, _, q, _⟩
            · cases p5
              have hy := p4 y p2
              obtain ⟨ys, e', i1, i2, i3, i4⟩ := lcL_run h xs ds s' (wipeD env3 vs) q hd.2 (p6.sat (p3.wipe vs)) e2
              exact ⟨y :: ys, e', by simp [p1, i1], i2, by simp [hy.1, i3], fun hc => by subst hc; simp [cleanL, i4 rfl]; exact hy.2⟩
            · cases q
        · cases q
  | [], _ :: _, s, env, r, hd, _, _ => by simp at hd
  | _ :: _, [], s, env, r, hd, _, _ => by simp at hd
def mdLc (ν : Md) : Md := match ν with
  | .cl => .cl
  | _ => .top
section
variable {X : XP} {Γ : Ctx} {w : M β} {Ψ : D → Md → Ctx → M β → Prop} {m ma mb mc : Exp} {tt : Tst} {tg : Tgt} {mi : Itm} {vs : List Nat} {n : Nat}
def FinLcS {α γ : Type} [Ty α] [Ty γ] (n : Nat) (tg : Tgt) (tt : Tst) (m : Exp) (vs : List Nat) (Ψ : D → Md → Ctx → M β → Prop) (ds : List D) (Γ1 : Ctx) (w1 : M β) : Prop :=
  ∃ (σ : Type) (Δ : σ → Ctx) (ν : Md) (xs : List α) (s0 : σ) (g : α → σ → M (Option γ × σ)), ds = xs.map enc ∧ Γ1.length = n ∧ Wk (wpC Γ1 vs) (Δ s0) ∧ (∀ s, ∀ i ∈ vs, (Δ s)[i]? = some Tp ∨ (Δ s)[i]? = none) ∧ (∀ a s, KT (Δ s) tg (enc a) .any fun Γ2 => KB xF Γ2 tt (g a s) (FinLc Δ vs m ν)) ∧
    (w1 ≠ .no → ∃ r : List γ × σ, xs.length ≤ 100000 ∧ fltSr g xs s0 = .ok r ∧ Ψ (enc r.1) (mdLc ν) (Δ r.2) w1)
theorem ke_lcG {α γ : Type} [Ty α] [Ty γ] (h : KI X Γ mi w (FinLcS (α := α) (γ := γ) n tg tt m vs Ψ)) : KE X Γ (eLc n mi tg tt m vs) w Ψ := fun env s hw => by
  unfold eLc
  rcases h env s hw with ⟨ds, e, Γ', e1, e3, σ, Δ, ν, xs, s0, g, e4, e5, e6, e7, e8, e9⟩ | ⟨c, es, e, e1, e2, e3⟩
  · obtain ⟨r, h1, h2, h3⟩ := e9 hw
    obtain ⟨ys, e', i1, i2, i3, i4⟩ := lcL_run e8 xs ds s0 (wipeD e vs) r e4 (e6.sat (e3.wipe vs)) h2
    have hn : e.length = n := by rw [e3.len, e5]
    have hl : ds.length ≤ 100000 := by rw [len_enc e4]; exact h1
    refine .inl ⟨.lst true ys, backD e vs e', _, _, Δ r.2, ?_, ?_, i2.back vs (e7 r.2), h3⟩
    · rw [e1]; simp [hn, hl, i1]
    · cases ν with
      | cl => exact is_lstC i3 (i4 rfl)
      | any => exact is_lst i3
      | top => exact is_lst i3
      | tl => exact is_lst i3
  · exact .inr ⟨c, es, e, by rw [e1], e2, e3⟩
theorem len_ok2 {α γ δ : Type} {x : M (γ × δ)} {xs : List α} {k : γ → δ → M β} (hw : (if xs.length ≤ 100000 then x else .no).bind2 k ≠ .no) : xs.length ≤ 100000 := by
  by_cases h : xs.length ≤ 100000
  · exact h
  · rw [if_neg h] at hw; exact absurd rfl hw
theorem len_ok {α γ : Type} {x : M γ} {xs : List α} {k : γ → M β} (hw : (if xs.length ≤ 100000 then x else .no).bind k ≠ .no) : xs.length ≤ 100000 := by
  by_cases h : xs.length ≤ 100000
  · exact h
  · rw [if_neg h] at hw; exact absurd rfl hw
/-- with a state, a test -/
theorem ke_fltS {α γ : Type} [Ty α] [Ty γ] (h : KI X Γ mi w fun ds Γ1 w1 => ∃ (σ : Type) (Δ : σ → Ctx) (ν : Md) (xs : List α) (s0 : σ) (g : α → σ → M (Option γ × σ)) (k : List γ → σ → M β), ds = xs.map enc ∧ w1 = (fltS g xs s0).bind2 k ∧ Γ1.length = n ∧ Wk (wpC Γ1 vs) (Δ s0) ∧ (∀ s, ∀ i ∈ vs, (Δ s)[i]? = some Tp ∨ (Δ s)[i]? = none) ∧
      (∀ a s, KT (Δ s) tg (enc a) .any fun Γ2 => KB xF Γ2 tt (g a s) (FinLc Δ vs m ν)) ∧ ∀ r s, Ψ (enc r) (mdLc ν) (Δ s) (k r s)) : KE X Γ (eLc n mi tg tt m vs) w Ψ :=
  ke_lcG (α := α) (γ := γ) fun env s hw => by
    rcases h env s hw with ⟨ds, e, Γ', e1, e3, σ, Δ, ν, xs, s0, g, k, e4, rfl, e5, e6, e7, e8, e9⟩ | q
    · refine .inl ⟨ds, e, Γ', e1, e3, σ, Δ, ν, xs, s0, g, e4, e5, e6, e7, e8, fun hw => ?_⟩
      have hl := len_ok2 hw
      unfold fltS at hw ⊢
      rw [if_pos hl] at hw ⊢
      cases q : fltSr g xs s0 with
      | no => rw [q] at hw; exact absurd rfl hw
      | ex c ds =>
        exfalso
        cases xs with
        | nil => cases q
        | cons a xs =>
          unfold fltSr at q
          split at q
          · split at q <;> cases q
          · cases q
      | ok r => exact ⟨r, hl, rfl, e9 r.1 r.2⟩
    · exact .inr q
theorem ke_mapS {α γ : Type} [Ty α] [Ty γ] (h : KI X Γ mi w fun ds Γ1 w1 => ∃ (σ : Type) (Δ : σ → Ctx) (ν : Md) (xs : List α) (s0 : σ) (g : α → σ → M (γ × σ)) (k : List γ → σ → M β), ds = xs.map enc ∧ w1 = (mapS g xs s0).bind2 k ∧ Γ1.length = n ∧ Wk (wpC Γ1 vs) (Δ s0) ∧ (∀ s, ∀ i ∈ vs, (Δ s)[i]? = some Tp ∨ (Δ s)[i]? = none) ∧
      (∀ a s, KT (Δ s) tg (enc a) .any fun Γ2 => KE xF Γ2 m (g a s) fun y μ Γ4 w4 => ∃ (b : γ) (s : σ), (∀ d, Is y μ d → Is (enc b) ν d) ∧ w4 = .ok (b, s) ∧ Wk (wpC Γ4 vs) (Δ s)) ∧ ∀ r s, Ψ (enc r) (mdLc ν) (Δ s) (k r s)) : KE X Γ (eLc n mi tg bYes m vs) w Ψ :=
  ke_lcG (α := α) (γ := γ) fun env s hw => by
    rcases h env s hw with ⟨ds, e, Γ', e1, e3, σ, Δ, ν, xs, s0, g, k, e4, rfl, e5, e6, e7, e8, e9⟩ | q
    · refine .inl ⟨ds, e, Γ', e1, e3, σ, Δ, ν, xs, s0, fun a s => (g a s).bind fun p => .ok (some p.1, p.2), e4, e5, e6, e7, fun a s env d h1 h2 => ?_, fun hw => ?_⟩
      · obtain ⟨e', Γ2, q1, q2, q3⟩ := e8 a s env d h1 h2
        refine ⟨e', Γ2, q1, q2, fun env2 s2 hn => .inl ⟨true, env2, Γ2, rfl, s2, ⟨fun h => (by cases h), fun _ env3 s3 hn3 => ?_⟩⟩⟩
        have hg : g a s ≠ .no := fun e => hn3 (by simp only [e]; rfl)
        rcases q3 env3 s3 hg with ⟨d', e4', x, μ, Γ4, r1, r2, r3, b, s', r4, r5, r6⟩ | ⟨_, _, _, _, _, q⟩
        · exact .inl ⟨d', e4', x, μ, Γ4, r1, r2, r3, b, s', r4, by simp only [r5]; rfl, r6⟩
        · exact q.elim
      · have hl := len_ok2 hw
        unfold mapS at hw ⊢
        rw [if_pos hl] at hw ⊢
        cases q : mapSr g xs s0 with
        | no => rw [q] at hw; exact absurd rfl hw
        | ex c ds =>
          exfalso
          cases xs with
          | nil => cases q
          | cons a xs =>
            unfold mapSr at q
            split at q
            · split at q <;> cases q
            · cases q
        | ok r => exact ⟨r, hl, mapSr_flt q, e9 r.1 r.2⟩
    · exact .inr q
theorem ke_fltM {α γ : Type} [Ty α] [Ty γ] (h : KI X Γ mi w fun ds Γ1 w1 => ∃ (Δ : Ctx) (ν : Md) (xs : List α) (g : α → M (Option γ)) (k : List γ → M β), ds = xs.map enc ∧ w1 = (fltM g xs).bind k ∧ Γ1.length = n ∧ Wk (wpC Γ1 vs) Δ ∧ (∀ i ∈ vs, Δ[i]? = some Tp ∨ Δ[i]? = none) ∧
      (∀ a, KT Δ tg (enc a) .any fun Γ2 => KB xF Γ2 tt (g a) fun t Γ3 w3 => (t = false → w3 = .ok none ∧ Wk (wpC Γ3 vs) Δ) ∧ (t = true → KE xF Γ3 m w3 fun y μ Γ4 w4 => ∃ b : γ, (∀ d, Is y μ d → Is (enc b) ν d) ∧ w4 = .ok (some b) ∧ Wk (wpC Γ4 vs) Δ)) ∧ ∀ r, Ψ (enc r) (mdLc ν) Δ (k r)) : KE X Γ (eLc n mi tg tt m vs) w Ψ :=
  ke_lcG (α := α) (γ := γ) fun env s hw => by
    rcases h env s hw with ⟨ds, e, Γ', e1, e3, Δ, ν, xs, g, k, e4, rfl, e5, e6, e7, e8, e9⟩ | q
    · refine .inl ⟨ds, e, Γ', e1, e3, Unit, fun _ => Δ, ν, xs, (), fun a _ => (g a).bind fun p => .ok (p, ()), e4, e5, e6, fun _ => e7, fun a s env d h1 h2 => ?_, fun hw => ?_⟩
      · obtain ⟨e', Γ2, q1, q2, q3⟩ := e8 a env d h1 h2
        refine ⟨e', Γ2, q1, q2, fun env2 s2 hn => ?_⟩
        have hg : g a ≠ .no := fun e => hn (by simp only [e]; rfl)
        rcases q3 env2 s2 hg with ⟨b, e4', Γ4, r1, r2, r3, r4⟩ | ⟨_, _, _, _, _, q⟩
        · refine .inl ⟨b, e4', Γ4, r1, r2, fun hb => ?_, fun hb env3 s3 hn3 => ?_⟩
          · obtain ⟨q1, q2⟩ := r3 hb
            exact ⟨(), by simp only [q1]; rfl, q2⟩
          · rcases r4 hb env3 s3 hg with ⟨d', e5', x, μ, Γ5, p1, p2, p3, b', p4, p5, p6⟩ | ⟨_, _, _, _, _, q⟩
            · exact .inl ⟨d', e5', x, μ, Γ5, p1, p2, p3, b', (), p4, by simp only [p5]; rfl, p6⟩
            · exact q.elim
        · exact q.elim
      · have hl := len_ok hw
        unfold fltM at hw ⊢
        rw [if_pos hl] at hw ⊢
        cases q : fltMr g xs with
        | no => rw [q] at hw; exact absurd rfl hw
        | ex c ds =>
          exfalso
          cases xs with
          | nil => cases q
          | cons a xs =>
            unfold fltMr at q
            split at q
            · split at q <;> cases q
            · cases q
        | ok r => exact ⟨(r, ()), hl, fltMr_flt q, e9 r⟩
    · exact .inr q
theorem ke_mapM {α γ : Type} [Ty α] [Ty γ] (h : KI X Γ mi w fun ds Γ1 w1 => ∃ (Δ : Ctx) (ν : Md) (xs : List α) (g : α → M γ) (k : List γ → M β), ds = xs.map enc ∧ w1 = (mapM g xs).bind k ∧ Γ1.length = n ∧ Wk (wpC Γ1 vs) Δ ∧ (∀ i ∈ vs, Δ[i]? = some Tp ∨ Δ[i]? = none) ∧
      (∀ a, KT Δ tg (enc a) .any fun Γ2 => KE xF Γ2 m (g a) fun y μ Γ4 w4 => ∃ b : γ, (∀ d, Is y μ d → Is (enc b) ν d) ∧ w4 = .ok b ∧ Wk (wpC Γ4 vs) Δ) ∧ ∀ r, Ψ (enc r) (mdLc ν) Δ (k r)) : KE X Γ (eLc n mi tg bYes m vs) w Ψ :=
  ke_lcG (α := α) (γ := γ) fun env s hw => by
    rcases h env s hw with ⟨ds, e, Γ', e1, e3, Δ, ν, xs, g, k, e4, rfl, e5, e6, e7, e8, e9⟩ | q
    · refine .inl ⟨ds, e, Γ', e1, e3, Unit, fun _ => Δ, ν, xs, (), fun a _ => (g a).bind fun p => .ok (some p, ()), e4, e5, e6, fun _ => e7, fun a s env d h1 h2 => ?_, fun hw => ?_⟩
      · obtain ⟨e', Γ2, q1, q2, q3⟩ := e8 a env d h1 h2
        refine ⟨e', Γ2, q1, q2, fun env2 s2 hn => .inl ⟨true, env2, Γ2, rfl, s2, ⟨fun h => (by cases h), fun _ env3 s3 hn3 => ?_⟩⟩⟩
        have hg : g a ≠ .no := fun e => hn3 (by simp only [e]; rfl)
        rcases q3 env3 s3 hg with ⟨d', e4', x, μ, Γ4, r1, r2, r3, b, r4, r5, r6⟩ | ⟨_, _, _, _, _, q⟩
        · exact .inl ⟨d', e4', x, μ, Γ4, r1, r2, r3, b, (), r4, by simp only [r5]; rfl, r6⟩
        · exact q.elim
      · have hl := len_ok hw
        unfold mapM at hw ⊢
        rw [if_pos hl] at hw ⊢
        cases q : mapMr g xs with
        | no => rw [q] at hw; exact absurd rfl hw
        | ex c ds =>
          exfalso
          cases xs with
          | nil => cases q
          | cons a xs =>
            unfold mapMr at q
            split at q
            · split at q <;> cases q
            · cases q
        | ok r => exact ⟨(r, ()), hl, mapMr_flt q, e9 r⟩
    · exact .inr q
def FinI (f : D → Option D) (x : D) (Γ : Ctx) (w : M β) (Ψ : D → Md → Ctx → M β → Prop) : Prop := w ≠ .no → ∀ d, sh d = x → ∃ e z ν, f (shI d) = some e ∧ Is z ν e ∧ Ψ z ν Γ w
theorem fi {γ : Type} [Ty γ] {f : D → Option D} {x : D} {ν : Md} {v : M γ} {k : γ → M β} (o : Op1I f x v ν) (h : ∀ c, Ψ (enc c) ν Γ (k c)) : FinI f x Γ (v.bind k) Ψ := fun hw d hd => by
  obtain ⟨c, e, rfl, e2, e3⟩ := o d hd fun e => hw (by rw [e]; rfl)
  exact ⟨e, _, ν, e2, e3, h c⟩
theorem fip {γ : Type} [Ty γ] {f : D → Option D} {x : D} {ν : Md} {c : γ} (o : Op1I f x (M.ok c) ν) (h : Ψ (enc c) ν Γ w) : FinI f x Γ w Ψ := fun hw d hd => by
  obtain ⟨c', e, e1, e2, e3⟩ := o d hd (by simp)
  cases e1
  exact ⟨e, _, ν, e2, e3, h⟩
theorem ke_g1 {f : D → Option D} (h : KE X Γ m w fun x _ Γ1 w1 => FinI f x Γ1 w1 Ψ) : KE X Γ (eG1 f m) w Ψ := fun env s hw => by
  unfold eG1
  rcases h env s hw with ⟨d, e, x, μ, Γ', e1, e2, e3, e4⟩ | ⟨c, es, e, e1, e2, e3⟩
  · obtain ⟨r, z, ν, g1, g2, g3⟩ := e4 hw d e2.1
    exact .inl ⟨r, e, z, ν, Γ', by rw [e1]; simp [g1], g2, e3, g3⟩
  · exact .inr ⟨c, es, e, by rw [e1]; rfl, e2, e3⟩
theorem flat_shI {α : Type} [Ty α] [Flat α] {xs : List α} {μ : Md} {d : D} (h : Is (enc xs) μ d) : shI d = d := by
  obtain ⟨o, ds, rfl, e⟩ := is_list h
  show D.lst o (shL ds) = _
  rw [e, ← (flatL e).2]
theorem ke_g1VF {α : Type} [Ty α] [Flat α] {xs : List α} {μ : Md} {f : D → Option D} (i : Nat) (hi : Γ[i]? = some (Is (enc xs) μ)) (h : FinI f (enc xs) Γ w Ψ) : KE X Γ (eG1V f i) w Ψ := fun env s hw => by
  unfold eG1V
  obtain ⟨d, e1, e2⟩ := s.at hi
  obtain ⟨r, z, ν, g1, g2, g3⟩ := h hw d e2.1
  have hs : env.set i (shI d) = env := by
    rw [flat_shI e2]
    apply List.ext_getElem?
    intro j
    by_cases e : i = j
    · subst e; rw [List.getElem?_set_self (List.getElem?_eq_some_iff.mp e1).1, e1]
    · rw [List.getElem?_set_ne e]
  exact .inl ⟨r, env.set i (shI d), z, ν, Γ, by rw [e1]; simp [e2.dead, g1], g2, by rw [hs]; exact s, g3⟩
def KO (X : XP) (Γ : Ctx) (m : Opt) (w : M β) (Ψ : Option Int → Ctx → M β → Prop) : Prop := ∀ env, Sat Γ env → w ≠ .no →
  (∃ o e Γ', m env = .ok (o, e) ∧ Sat Γ' e ∧ Ψ o Γ' w) ∨ (∃ c es e, m env = .ex (.exo c es) e ∧ w = .ex c (shL es) ∧ X e)
theorem ko_n {Ψ : Option Int → Ctx → M β → Prop} (h : Ψ none Γ w) : KO X Γ oN w Ψ := fun env s hw => .inl ⟨none, env, Γ, rfl, s, h⟩
theorem ko_s {Ψ : Option Int → Ctx → M β → Prop} (h : KE X Γ m w fun x _ Γ1 w1 => ∃ i : Int, x = enc i ∧ Ψ (some i) Γ1 w1) : KO X Γ (oS m) w Ψ := fun env s hw => by
  unfold oS
  rcases h env s hw with ⟨d, e, x, μ, Γ', e1, e2, e3, i, rfl, e4⟩ | ⟨c, es, e, e1, e2, e3⟩
  · obtain ⟨rfl, _⟩ := e2.flat
    exact .inl ⟨some i, e, Γ', by rw [e1]; rfl, e3, e4⟩
  · exact .inr ⟨c, es, e, by rw [e1]; rfl, e2, e3⟩
def cut {α : Type} (xs : List α) (lo hi : Option Int) : List α := (xs.drop (HT.sIx xs.length 0 lo)).take (HT.sIx xs.length xs.length hi - HT.sIx xs.length 0 lo)
theorem cutD_map {α : Type} [Ty α] (xs : List α) (lo hi : Option Int) : cutD (xs.map enc) lo hi = (cut xs lo hi).map enc := by
  unfold cutD cut
  rw [List.length_map, List.map_take, List.map_drop]
theorem map_can {α : Type} [Ty α] (xs : List α) : shL (xs.map enc) = xs.map enc := by rw [shLmap, List.map_map]; exact List.map_congr_left fun a _ => Ty.can a
theorem ke_slVF {α : Type} [Ty α] [Flat α] {lo hi : Opt} (i : Nat) (hl : At Γ i fun _ _ => True) (h : KO X Γ lo w fun a Γ2 w2 => KO X Γ2 hi w2 fun b Γ3 w3 => ∃ (xs : List α), (∃ μ, Γ3[i]? = some (Is (enc xs) μ)) ∧ Ψ (enc (cut xs a b)) .cl Γ3 w3) : KE X Γ (eSlV i lo hi) w Ψ := fun env s hw => by
  unfold eSlV
  rw [if_pos (live_of s hl)]
  rcases h env s hw with ⟨a, e, Γ2, e1, e2, e3⟩ | ⟨c, es, e, e1, e2, e3⟩
  · rcases e3 e e2 hw with ⟨b, e', Γ3, q1, q2, xs, ⟨μ, q4⟩, q3⟩ | ⟨c, es, e', q1, q2, q3⟩
    · obtain ⟨d, p1, p2⟩ := q2.at q4
      have hs : e'.set i (shI d) = e' := by
        rw [flat_shI p2]
        apply List.ext_getElem?
        intro j
        by_cases e : i = j
        · subst e; rw [List.getElem?_set_self (List.getElem?_eq_some_iff.mp p1).1, p1]
        · rw [List.getElem?_set_ne e]
      exact .inl ⟨.lst true (cutD (xs.map enc) a b), e'.set i (shI d), _, _, Γ3, by rw [e1]; simp [q1, p1, lsI p2.1], is_lstF (by rw [cutD_map, map_can]), by rw [hs]; exact q2, q3⟩
    · exact .inr ⟨c, es, e', by rw [e1]; simp [q1], q2, q3⟩
  · exact .inr ⟨c, es, e, by rw [e1]; rfl, e2, e3⟩
end
end Fl
namespace Fl
open PySem
open Ty (enc)
variable {β : Type}
def setIx {α : Type} (xs : List α) (j : Int) (a : α) : M (List α) := match L2.ixN xs.length j with
  | some k => .ok (xs.set k a)
  | none => .no
def appL {α : Type} (xs : List α) (a : α) : M (List α) := if xs.length < 100000 then .ok (xs ++ [a]) else .no
section
variable {α γ : Type} [Ty α] [Ty γ] {μ ν : Md}
theorem shL_set : ∀ {ds : List D} {k : Nat} {d : D}, shL (ds.set k d) = (shL ds).set k (sh d)
  | [], k, d => rfl
  | e :: ds, 0, d => rfl
  | e :: ds, k + 1, d => by simp [shL_set]
/-- an item put in: what is known of the list then -/
def SetM (α : Type) [Ty α] (ν μ ρ : Md) : Prop := ∀ (xs : List α) (a : α) (d0 d : D), Is (enc xs) ν d0 → Is (enc a) μ d → ∃ ds, d0 = .lst true ds ∧ shL ds = xs.map enc ∧ (∀ k, Is (enc (xs.set k a)) ρ (.lst true (ds.set k d))) ∧ Is (enc (xs ++ [a])) ρ (.lst true (ds ++ [d]))
theorem sm_top (h : ν = .top ∨ ν = .cl := by first | exact Or.inl rfl | exact Or.inr rfl) : SetM α ν μ .top := fun xs a d0 d h0 hd => by
  obtain ⟨ds, rfl, e⟩ := is_listO h0 h
  refine ⟨ds, rfl, e, fun k => is_lst ?_, is_lst ?_⟩
  · rw [shL_set, e, hd.1, List.map_set]
  · rw [shLapp, e]; simp [hd.1]
theorem sm_flat [Flat α] (h : ν = .top ∨ ν = .cl := by first | exact Or.inl rfl | exact Or.inr rfl) : SetM α ν μ .cl := fun xs a d0 d h0 hd => by
  obtain ⟨ds, h1, h2, h3, h4⟩ := sm_top (α := α) (μ := μ) h xs a d0 d h0 hd
  exact ⟨ds, h1, h2, fun k => cl_of_top (h3 k), cl_of_top h4⟩
end
section
variable {N : En β} {Γ : Ctx} {w : M β} {Ψ : Ctx → M β → Prop} {ΨE : D → Md → Ctx → M β → Prop} {me mi m : Exp} {ms : Arg} {X : XP}
theorem ks_setIx {α : Type} [Ty α] {ν μ ρ : Md} (i : Nat) (sm : SetM α ν μ ρ) (h : KE N.x Γ me w fun x μ' Γ1 w1 => At Γ1 i (fun _ _ => True) ∧ KE N.x Γ1 mi w1 fun y _ Γ2 w2 => ∃ (a : α) (xs : List α) (j : Int) (k : List α → M β), x = enc a ∧ μ' = μ ∧ y = enc j ∧ Γ2[i]? = some (Is (enc xs) ν) ∧ w2 = (setIx xs j a).bind k ∧ ∀ r, Ψ (Γ2.set i (Is (enc r) ρ)) (k r)) :
    KS N Γ (sSetIx i me mi) w Ψ := fun env s hw => by
  unfold sSetIx
  rcases h env s hw with ⟨d, e, x, μ', Γ', e1, e2, e3, e4, e5⟩ | ⟨c, es, e, e1, e2, e3⟩
  · rw [e1]
    dsimp only
    rw [if_pos (live_of e3 e4)]
    rcases e5 e e3 hw with ⟨d', e', x2, μ2, Γ2, q1, q2, q3, a, xs, j, k, rfl, rfl, rfl, q4, rfl, q5⟩ | ⟨c, es, e', q1, q2, q3⟩
    · obtain rfl := is_int q2
      obtain ⟨d0, p1, p2⟩ := q3.at q4
      obtain ⟨ds, rfl, p3, p4, _⟩ := sm xs a d0 d p2 e2
      rw [q1]
      unfold setIx at hw ⊢
      simp only [p1, len_enc p3]
      cases hk : L2.ixN xs.length j with
      | none => rw [hk] at hw; exact absurd rfl hw
      | some n => exact ⟨_, q3.set (p4 n), q5 _⟩
    · rw [q1]; exact ⟨c, es, rfl, q2, q3⟩
  · rw [e1]; exact ⟨c, es, rfl, e2, e3⟩
/-- of a list that is written with its two items -/
theorem ks_setF {α γ : Type} [Ty α] [Ty γ] (i : Nat) (h : KE N.x Γ me w fun x μ Γ1 w1 => At Γ1 i (fun _ _ => True) ∧ KE N.x Γ1 mi w1 fun y _ Γ2 w2 => μ = .cl ∧ ∃ t : F2 α γ, Γ2[i]? = some (Is (enc t) .cl) ∧ ((∃ a : α, x = enc a ∧ y = enc (0 : Int) ∧ Ψ (Γ2.set i (Is (enc (F2.mk a t.b)) .cl)) w2) ∨ ∃ b : γ, x = enc b ∧ y = enc (1 : Int) ∧ Ψ (Γ2.set i (Is (enc (F2.mk t.a b)) .cl)) w2)) :
    KS N Γ (sSetIx i me mi) w Ψ := fun env s hw => by
  unfold sSetIx
  rcases h env s hw with ⟨d, e, x, μ, Γ', e1, e2, e3, e4, e5⟩ | ⟨c, es, e, e1, e2, e3⟩
  · rw [e1]
    dsimp only
    rw [if_pos (live_of e3 e4)]
    rcases e5 e e3 hw with ⟨d', e', x2, μ2, Γ2, q1, q2, q3, rfl, t, q4, q5⟩ | ⟨c, es, e', q1, q2, q3⟩
    · obtain ⟨d0, p1, p2⟩ := q3.at q4
      obtain ⟨o, ds, rfl, p3⟩ := sh_lst_inv p2.1
      obtain ⟨u, v, rfl, u1, v1⟩ := sh2_inv p3
      have hc : (o && cleanL [u, v]) = true := p2.2
      simp [cleanL] at hc
      obtain ⟨rfl, c1, c2⟩ := hc
      have hd : clean d = true := e2.2
      rw [q1]
      rcases q5 with ⟨a, rfl, rfl, q6⟩ | ⟨b, rfl, rfl, q6⟩
      · obtain rfl := is_int (a := 0) q2
        have hk : L2.ixN 2 0 = some 0 := rfl
        simp only [p1, List.length_cons, List.length_nil, hk]
        exact ⟨_, q3.set (P := Is (enc (F2.mk a t.b)) .cl) ⟨by simp [e2.1, v1]; rfl, by simp [mdB, clean, cleanL, hd, c2]⟩, q6⟩
      · obtain rfl := is_int (a := 1) q2
        have hk : L2.ixN 2 1 = some 1 := rfl
        simp only [p1, List.length_cons, List.length_nil, hk]
        exact ⟨_, q3.set (P := Is (enc (F2.mk t.a b)) .cl) ⟨by simp [e2.1, u1]; rfl, by simp [mdB, clean, cleanL, hd, c1]⟩, q6⟩
    · rw [q1]; exact ⟨c, es, rfl, q2, q3⟩
  · rw [e1]; exact ⟨c, es, rfl, e2, e3⟩
theorem ks_app {α : Type} [Ty α] {ν μ ρ : Md} (i : Nat) (sm : SetM α ν μ ρ) (xs0 : List α) (h0 : ∃ ν', Γ[i]? = some (Is (enc xs0) ν')) (h : KE N.x Γ me w fun x μ' Γ1 w1 => ∃ (a : α) (xs : List α) (k : List α → M β), x = enc a ∧ μ' = μ ∧ Γ1[i]? = some (Is (enc xs) ν) ∧ w1 = (appL xs a).bind k ∧ ∀ r, Ψ (Γ1.set i (Is (enc r) ρ)) (k r)) :
    KS N Γ (sApp i me) w Ψ := fun env s hw => by
  unfold sApp
  have hl : isLst env i = true := by
    obtain ⟨ν', h0⟩ := h0
    obtain ⟨d, h1, h2⟩ := s.at h0
    obtain ⟨o, ds, rfl, _⟩ := is_list h2
    unfold isLst; rw [h1]
  rw [if_pos hl]
  rcases h env s hw with ⟨d, e, x, μ', Γ', e1, e2, e3, a, xs, k, rfl, rfl, e4, rfl, e5⟩ | ⟨c, es, e, e1, e2, e3⟩
  · rw [e1]
    dsimp only
    obtain ⟨d0, p1, p2⟩ := e3.at e4
    obtain ⟨ds, rfl, p3, _, p4⟩ := sm xs a d0 d p2 e2
    simp only [p1]
    unfold appL at hw ⊢
    rw [len_enc p3]
    by_cases hk : xs.length < 100000
    · rw [if_pos hk] at hw ⊢; rw [if_pos hk]; exact ⟨_, e3.set p4, e5 _⟩
    · rw [if_neg hk] at hw; exact absurd rfl hw
  · rw [e1]; exact ⟨c, es, rfl, e2, e3⟩
end
end Fl
namespace Fl
open PySem
open Ty (enc)
variable {β : Type}
/-- what follows, where something follows -/
def GP (Ψ : D → Md → Ctx → M β → Prop) (x : D) (μ : Md) (Γ : Ctx) (w : M β) : Prop := w ≠ .no → Ψ x μ Γ w
def unopt {α : Type} (o : Option α) : M α := match o with
  | some a => .ok a
  | none => .no
@[simp] theorem unopt_some {α : Type} (a : α) : unopt (some a) = .ok a := rfl
/-- a pair as a fraction -/
def toQ (p : T2 Int Int) : M Rat := if (Rat.divInt p.a p.b).num = p.a ∧ ((Rat.divInt p.a p.b).den : Int) = p.b then .ok (Rat.divInt p.a p.b) else .no
section
variable {X : XP} {Γ : Ctx} {w : M β} {Ψ : D → Md → Ctx → M β → Prop} {m : Exp} {μ : Md} {N : En β} {ΨS : Ctx → M β → Prop} {b : Tst} {s u : Stm}
theorem ke_gd (h : KE X Γ m w (GP Ψ)) : KE X Γ m w Ψ := fun env s hw => by
  rcases h env s hw with ⟨d, e, x, μ, Γ', e1, e2, e3, e4⟩ | q
  · exact .inl ⟨d, e, x, μ, Γ', e1, e2, e3, e4 hw⟩
  · exact .inr q
theorem co_q {p : T2 Int Int} {k : Rat → M β} (h : ∀ c, Ψ (enc c) μ Γ (k c)) : GP Ψ (enc p) μ Γ ((toQ p).bind k) := fun hw => by
  unfold toQ at hw ⊢
  split at hw
  · rename_i hc
    rw [if_pos hc]
    have : enc p = enc (Rat.divInt p.a p.b) := by
      show D.tup [.int p.a, .int p.b] = .tup [.int _, .int _]
      rw [hc.1, hc.2]
    rw [this]; exact h _
  · exact absurd rfl hw
theorem twM {γ : Type} {t : Bool} {wa wb : M (Option γ)} {Γ0 Δ : Ctx} {Ψ : D → Md → Ctx → M (Option γ) → Prop} (hb : wb = .ok none ∧ Wk Γ0 Δ) (ha : KE xF Γ m wa Ψ) : (t = false → (if t then wa else wb) = .ok none ∧ Wk Γ0 Δ) ∧ (t = true → KE xF Γ m (if t then wa else wb) Ψ) := by
  cases t with
  | true => exact ⟨fun h => (by cases h), fun _ => ha⟩
  | false => exact ⟨fun _ => hb, fun h => (by cases h)⟩
theorem twS {γ σ : Type} {t : Bool} {wa wb : M (Option γ × σ)} {Γ0 : Ctx} {Δ : σ → Ctx} {Ψ : D → Md → Ctx → M (Option γ × σ) → Prop} (hb : ∃ s, wb = .ok (none, s) ∧ Wk Γ0 (Δ s)) (ha : KE xF Γ m wa Ψ) : (t = false → ∃ s, (if t then wa else wb) = .ok (none, s) ∧ Wk Γ0 (Δ s)) ∧ (t = true → KE xF Γ m (if t then wa else wb) Ψ) := by
  cases t with
  | true => exact ⟨fun h => (by cases h), fun _ => ha⟩
  | false => exact ⟨fun _ => hb, fun h => (by cases h)⟩
/-- context beside context: how a slot is known while it is lent, and behind that -/
def Bor (L Q : List Nat) : Nat → Ctx → Ctx → Prop
  | _, [], [] => True
  | k, P :: Γ, P1 :: Γ1 => (∀ d, P d → P1 (if L.contains k then sh d else d)) ∧ Bor L Q (k + 1) Γ Γ1
  | _, _, _ => False
def Bak (L Q : List Nat) : Nat → Ctx → Ctx → Ctx → Prop
  | _, [], [], [] => True
  | k, P :: Γ, P2 :: Γ2, R :: Δ => (∀ c d, P c → P2 d → R (if clean d then d else if Q.contains k && (L.contains k || !own c) then c else .dead)) ∧ Bak L Q (k + 1) Γ Γ2 Δ
  | _, _, _, _ => False
theorem Bor.sat {L Q : List Nat} : ∀ {k : Nat} {Γ Γ1 : Ctx} {env : Fl.Env}, Bor L Q k Γ Γ1 → Sat Γ env → Sat Γ1 (shF L k env)
  | k, [], [], [], _, _ => trivial
  | k, P :: Γ, P1 :: Γ1, d :: e, h, s => ⟨h.1 d s.1, Bor.sat h.2 s.2⟩
  | k, [], [], _ :: _, _, s => s.elim
  | k, [], _ :: _, _, h, _ => h.elim
  | k, _ :: _, [], _, h, _ => h.elim
  | k, _ :: _, _ :: _, [], _, s => s.elim
theorem Bak.sat {L Q : List Nat} : ∀ {k : Nat} {Γ Γ2 Δ : Ctx} {old env : Fl.Env}, Bak L Q k Γ Γ2 Δ → Sat Γ old → Sat Γ2 env → Sat Δ (backF L Q k old env)
  | k, [], [], [], [], [], _, _, _ => trivial
  | k, P :: Γ, P2 :: Γ2, R :: Δ, c :: old, d :: env, h, s, s2 => ⟨h.1 c d s.1 s2.1, Bak.sat h.2 s.2 s2.2⟩
  | k, [], [], [], _ :: _, _, _, s, _ => s.elim
  | k, [], [], [], [], _ :: _, _, _, s => s.elim
  | k, _ :: _, _ :: _, _ :: _, [], _, _, s, _ => s.elim
  | k, _ :: _, _ :: _, _ :: _, _ :: _, [], _, _, s => s.elim
  | k, _ :: _, [], _, _, _, h, _, _ => h.elim
  | k, [], _ :: _, _, _, _, h, _, _ => h.elim
  | k, [], [], _ :: _, _, _, h, _, _ => h.elim
  | k, _ :: _, _ :: _, [], _, _, h, _, _ => h.elim
end
/-- a dict: its pairs in order -/
structure Dct (α : Type) where
  l : List (Int × α)
instance {α : Type} [Ty α] : Ty (Dct α) := ⟨fun d => .dct false (d.l.map fun p => Sum.inl p.1) (d.l.map fun p => enc p.2), fun d => by
  simp only [sh]
  rw [shLmap, List.map_map]
  congr 1
  exact List.map_congr_left fun p _ => Ty.can p.2, fun _ => by simp⟩
section
variable {α : Type} [Ty α]
def dputL {α : Type} (l : List (Int × α)) (k : Int) (a : α) : List (Int × α) := if (l.any fun p => decide (p.1 = k)) then l.map (fun p => (p.1, if p.1 = k then a else p.2)) else l ++ [(k, a)]
end
end Fl
namespace Fl
open PySem
open Ty (enc)
section
variable {α : Type} [Ty α] [Flat α]
def t2p {α : Type} (t : T2 Int α) : Int × α := (t.a, t.b)
def p2t {α : Type} (p : Int × α) : T2 Int α := ⟨p.1, p.2⟩
def encP (p : Int × α) : Int × D := (p.1, enc p.2)
def itemsM {α : Type} (xs : List (T2 Int α)) : M (List (T2 Int α)) := if xs.length < 64 then .ok ((sortG (mergeG (xs.map t2p))).map p2t) else .no
theorem rowsD_enc (xs : List (T2 Int α)) : rowsD (xs.map enc) = some ((xs.map t2p).map encP) := by
  induction xs with
  | nil => rfl
  | cons a xs ih => simp only [List.map_cons, rowsD, show (enc a : D) = .tup [.int a.a, enc a.b] from rfl, ih]; rfl
theorem putG_enc (l : List (Int × α)) (k : Int) (x : α) : putG (l.map encP) k (enc x) = (putG l k x).map encP := by
  unfold putG
  have h : ((l.map encP).any fun e => decide (e.1 = k)) = l.any fun e => decide (e.1 = k) := by rw [List.any_map]; rfl
  rw [h]
  split
  · rw [List.map_map, List.map_map]
    refine List.map_congr_left fun e _ => ?_
    by_cases he : e.1 = k
    · simp [Function.comp, encP, he]
    · simp [Function.comp, encP, he]
  · rw [List.map_append]; rfl
theorem mergeG_enc (l : List (Int × α)) : mergeG (l.map encP) = (mergeG l).map encP := by
  unfold mergeG
  have : ∀ (l acc : List (Int × α)), (l.map encP).foldl (fun acc e => putG acc e.1 e.2) (acc.map encP) = (l.foldl (fun acc e => putG acc e.1 e.2) acc).map encP := by
    intro l
    induction l with
    | nil => intro acc; rfl
    | cons a l ih => intro acc; rw [List.map_cons, List.foldl_cons, List.foldl_cons, show (encP a).2 = enc a.2 from rfl, show (encP a).1 = a.1 from rfl, putG_enc, ih]
  exact this l []
theorem sortG_enc (l : List (Int × α)) : sortG (l.map encP) = (sortG l).map encP := by
  unfold sortG
  exact (List.map_mergeSort (f := (encP : Int × α → Int × D)) (fun a _ b _ => rfl)).symm
theorem oi_items {xs : List (T2 Int α)} : Op1I gItems (enc xs) (itemsM xs) .cl := fun d h hv => by
  unfold itemsM at hv ⊢
  by_cases hl : xs.length < 64
  · rw [if_pos hl] at hv ⊢
    refine ⟨_, .lst true ((sortG (mergeG ((xs.map t2p).map encP))).map rowD), rfl, ?_, is_lstF ?_⟩
    · unfold gItems
      rw [lsI h]
      simp only [Option.bind_some]
      rw [rowsD_enc]
      simp only [Option.bind_some, List.length_map, hl, if_true]
    · rw [mergeG_enc, sortG_enc, List.map_map, List.map_map, shLmap, List.map_map]
      refine List.map_congr_left fun p _ => ?_
      show sh (D.tup [.int p.1, enc p.2]) = D.tup [.int p.1, enc p.2]
      simp [Ty.can]
  · rw [if_neg hl] at hv; exact absurd rfl hv
end
def AgW : Ags → Ags → Prop
  | [], [] => True
  | a :: as, b :: bs => (∀ d, Is a.1 a.2 d → Is b.1 b.2 d) ∧ AgW as bs
  | _, _ => False
theorem AgW.sat : ∀ {as bs : Ags} {ds : List D}, AgW as bs → SatA as ds → SatA bs ds
  | [], [], [], _, _ => trivial
  | a :: as, b :: bs, d :: ds, w, h => ⟨w.1 d h.1, AgW.sat w.2 h.2⟩
  | [], [], _ :: _, _, h => h.elim
  | [], _ :: _, _, w, _ => w.elim
  | _ :: _, [], _, w, _ => w.elim
  | _ :: _, _ :: _, [], _, h => h.elim
theorem vs_nil {Γ : Ctx} : ∀ i ∈ ([] : List Nat), Γ[i]? = some Tp ∨ Γ[i]? = none := fun i h => by cases h
theorem vs_c {Γ : Ctx} {j : Nat} {vs : List Nat} (h : Γ[j]? = some Tp) (hs : ∀ i ∈ vs, Γ[i]? = some Tp ∨ Γ[i]? = none) : ∀ i ∈ j :: vs, Γ[i]? = some Tp ∨ Γ[i]? = none := fun i hi => by
  rcases List.mem_cons.mp hi with rfl | hi
  · exact .inl h
  · exact hs i hi
/-- one of several types -/
inductive U2 (α β : Type) where
  | a (x : α) | b (x : β)
deriving DecidableEq
inductive U3 (α β γ : Type) where
  | a (x : α) | b (x : β) | c (x : γ)
deriving DecidableEq
section
variable {α β γ : Type} [Ty α] [Ty β] [Ty γ]
instance : Ty (U2 α β) := ⟨fun u => match u with | .a x => enc x | .b x => enc x, fun u => by cases u <;> exact Ty.can _, fun u => by cases u <;> exact Ty.kind _⟩
instance : Ty (U3 α β γ) := ⟨fun u => match u with | .a x => enc x | .b x => enc x | .c x => enc x, fun u => by cases u <;> exact Ty.can _, fun u => by cases u <;> exact Ty.kind _⟩
instance [NN α] [NN β] : NN (U2 α β) := ⟨fun u => match u with | .a x => NN.nn x | .b x => NN.nn x⟩
instance [NN α] [NN β] [NN γ] : NN (U3 α β γ) := ⟨fun u => match u with | .a x => NN.nn x | .b x => NN.nn x | .c x => NN.nn x⟩
def U2.getA (u : U2 α β) : M α := match u with | .a x => .ok x | _ => .no
def U2.getB (u : U2 α β) : M β := match u with | .b x => .ok x | _ => .no
def U3.getA (u : U3 α β γ) : M α := match u with | .a x => .ok x | _ => .no
def U3.getB (u : U3 α β γ) : M β := match u with | .b x => .ok x | _ => .no
def U3.getC (u : U3 α β γ) : M γ := match u with | .c x => .ok x | _ => .no
variable {δ : Type} {Γ : Ctx} {Ψ : D → Md → Ctx → M δ → Prop} {μ : Md}
omit [Ty α] [Ty β] [Ty γ] in
@[simp] theorem U2.getA_a {x : α} : (U2.a x : U2 α β).getA = .ok x := rfl
omit [Ty α] [Ty β] [Ty γ] in
@[simp] theorem U2.getB_b {x : β} : (U2.b x : U2 α β).getB = .ok x := rfl
omit [Ty α] [Ty β] [Ty γ] in
@[simp] theorem U3.getA_a {x : α} : (U3.a x : U3 α β γ).getA = .ok x := rfl
omit [Ty α] [Ty β] [Ty γ] in
@[simp] theorem U3.getB_b {x : β} : (U3.b x : U3 α β γ).getB = .ok x := rfl
omit [Ty α] [Ty β] [Ty γ] in
@[simp] theorem U3.getC_c {x : γ} : (U3.c x : U3 α β γ).getC = .ok x := rfl
end
end Fl
namespace Fl
open PySem PySem.Spec PyProof.Rows L2 PySem.W
section
variable {P : Program} {w : World} {A : Around} {E : Value → Shared → Prop} {s : Shared}
/-- the fresh set -/
abbrev newS (w : World) : Obj := { cls := .type "set", dict := none, data := .set #[] 0 (.fresh 0 0 (!w.params.followText "set-order")) }
end
section
variable {X : Cx}
def rSetL (K : PySem.W.Frag) (w : World) : List V → Hp → VK → Prop := fun xs H Q => ∃ (l : Addr) (ns : List Int), xs = [V.ref l] ∧ SqL K H l (ns.map V.int) ∧ ns.length ≤ 1000 ∧
  ∀ a c, c ≤ ns.length → H a = none → Q (.ref a) (upd H a (SetO w a (fun j => decide (j ∈ ns)) c))
end
theorem lt_uniq {xs ys : List Int} (h1 : xs.Pairwise (· < ·)) (h2 : ys.Pairwise (· < ·)) (h : ∀ k, k ∈ xs ↔ k ∈ ys) : xs = ys := by
  have n : ∀ {l : List Int}, l.Pairwise (· < ·) → l.Nodup := fun h => h.imp fun q => by omega
  have le : ∀ {l : List Int}, l.Pairwise (· < ·) → l.Pairwise (· ≤ ·) := fun h => h.imp fun q => by omega
  exact sort_uniq ((List.perm_ext_iff_of_nodup (n h1) (n h2)).mpr h) (le h1) (le h2)
end Fl
namespace Fl
open PySem PySem.Spec PyProof.Rows L2 PySem.W
end Fl
namespace Fl
open PySem
open Ty (enc)
variable {β : Type}
class Cst (α γ : Type) [Ty α] [Ty γ] where
  cst : α → γ
  cst_eq : ∀ a, enc (cst a) = enc a
open Cst (cst)
instance (priority := low) {α : Type} [Ty α] : Cst α α := ⟨id, fun _ => rfl⟩
instance : Cst Rat (T2 Int Int) := ⟨fun q => ⟨q.num, (q.den : Int)⟩, fun _ => rfl⟩
instance {α γ : Type} [Ty α] [Ty γ] [Cst α γ] : Cst (List α) (List γ) := ⟨fun xs => xs.map cst, fun xs => by
  rw [enc_list, enc_list, List.map_map]
  congr 1
  exact List.map_congr_left fun a _ => Cst.cst_eq a⟩
instance {α γ α' γ' : Type} [Ty α] [Ty γ] [Ty α'] [Ty γ'] [Cst α α'] [Cst γ γ'] : Cst (T2 α γ) (T2 α' γ') := ⟨fun t => ⟨cst t.a, cst t.b⟩, fun t => by
  show D.tup [enc (cst t.a : α'), enc (cst t.b : γ')] = D.tup [enc t.a, enc t.b]
  rw [Cst.cst_eq, Cst.cst_eq]⟩
instance {α γ δ α' γ' δ' : Type} [Ty α] [Ty γ] [Ty δ] [Ty α'] [Ty γ'] [Ty δ'] [Cst α α'] [Cst γ γ'] [Cst δ δ'] : Cst (T3 α γ δ) (T3 α' γ' δ') := ⟨fun t => ⟨cst t.a, cst t.b, cst t.c⟩, fun t => by
  show D.tup [enc (cst t.a : α'), enc (cst t.b : γ'), enc (cst t.c : δ')] = D.tup [enc t.a, enc t.b, enc t.c]
  rw [Cst.cst_eq, Cst.cst_eq, Cst.cst_eq]⟩
instance {α γ : Type} [Ty α] [Ty γ] [Cst α γ] : Cst α (Option γ) := ⟨fun a => some (cst a), fun a => by
  show enc (cst a : γ) = _
  rw [Cst.cst_eq]⟩
instance {γ : Type} [Ty γ] : Cst Unit (Option γ) := ⟨fun _ => none, fun _ => rfl⟩
section
variable {X : XP} {Γ : Ctx} {w : M β} {Ψ : D → Md → Ctx → M β → Prop} {μ : Md}
theorem co_cst {α γ : Type} [Ty α] [Ty γ] [Cst α γ] {a : α} (h : Ψ (enc (cst a : γ)) μ Γ w) : GP Ψ (enc a) μ Γ w := fun _ => by rw [Cst.cst_eq] at h; exact h
end
section
variable {α : Type} [Ty α]
theorem iv_like {α : Type} [Ty α] {j : Int} {x : D} {xs : List α} (h : itD x = some (xs.map enc)) : ItV j x (ix xs j) := itv_of (x := x) h fun hv => by
  unfold ix at *
  cases e : L2.atI xs j with
  | none => rw [e] at hv; exact absurd rfl hv
  | some a => exact ⟨a, rfl, atI_map e⟩
theorem iv_2d {t : T2 α α} {j : Int} : ItV j (enc t) (ix [t.a, t.b] j) := iv_like rfl
end
/-- repr has room for a thing -/
structure Rp (d : D) (n b : Nat) : Prop where
  pl : pl d n = true
  lf : lf d = true
  bk : bulkD d ≤ b
theorem Rp.more {d : D} {n b c : Nat} (h : Rp d n b) (hc : b ≤ c) : Rp d n c := ⟨h.pl, h.lf, Nat.le_trans h.bk hc⟩
end Fl
namespace Fl
open PySem
open Ty (enc)
variable {β : Type}
structure T5 (α γ δ ε ζ : Type) where
  a : α
  b : γ
  c : δ
  d : ε
  e : ζ
deriving DecidableEq
section
variable {α γ δ ε ζ : Type} [Ty α] [Ty γ] [Ty δ] [Ty ε] [Ty ζ]
instance : Ty (T5 α γ δ ε ζ) := ⟨fun t => .tup [enc t.a, enc t.b, enc t.c, enc t.d, enc t.e], fun t => by simp [sh, Ty.can], fun _ => by simp⟩
instance : NN (T5 α γ δ ε ζ) := ⟨fun _ => rfl⟩
instance [Flat α] [Flat γ] [Flat δ] [Flat ε] [Flat ζ] : Flat (T5 α γ δ ε ζ) := ⟨fun t => by simp [enc, clean, cleanL]; exact ⟨Flat.flat t.a, Flat.flat t.b, Flat.flat t.c, Flat.flat t.d, Flat.flat t.e⟩⟩
instance [EqT α] [EqT γ] [EqT δ] [EqT ε] [EqT ζ] : EqT (T5 α γ δ ε ζ) := ⟨fun t => .tuple [EqT.py t.a, EqT.py t.b, EqT.py t.c, EqT.py t.d, EqT.py t.e], fun t => by simp [enc, toPy, toPyL, EqT.to], 1 + max (EqT.dep α) (max (EqT.dep γ) (max (EqT.dep δ) (max (EqT.dep ε) (EqT.dep ζ)))), fun t => by
    have := EqT.hdep t.a; have := EqT.hdep t.b; have := EqT.hdep t.c; have := EqT.hdep t.d; have := EqT.hdep t.e
    simp [PyData.depth, PyData.depthAll]; omega, fun t => by simp [PyData.canLay0, PyData.canLayAll0, EqT.lay], fun a b => by
    cases a; cases b; simp [PyData.eqv, PyData.eqvAll, EqT.eq]⟩
variable {κ : Type} [Ty κ] {Γ : Ctx} {ps : List PI}
end
structure F5 (α γ δ ε ζ : Type) where
  a : α
  b : γ
  c : δ
  d : ε
  e : ζ
deriving DecidableEq
section
variable {α γ δ ε ζ : Type} [Ty α] [Ty γ] [Ty δ] [Ty ε] [Ty ζ]
instance : Ty (F5 α γ δ ε ζ) := ⟨fun t => .lst false [enc t.a, enc t.b, enc t.c, enc t.d, enc t.e], fun t => by simp [sh, Ty.can], fun _ => by simp⟩
instance : NN (F5 α γ δ ε ζ) := ⟨fun _ => rfl⟩
instance [EqT α] [EqT γ] [EqT δ] [EqT ε] [EqT ζ] : EqT (F5 α γ δ ε ζ) := ⟨fun t => .list [EqT.py t.a, EqT.py t.b, EqT.py t.c, EqT.py t.d, EqT.py t.e], fun t => by simp [enc, toPy, toPyL, EqT.to], 1 + max (EqT.dep α) (max (EqT.dep γ) (max (EqT.dep δ) (max (EqT.dep ε) (EqT.dep ζ)))), fun t => by
    have := EqT.hdep t.a; have := EqT.hdep t.b; have := EqT.hdep t.c; have := EqT.hdep t.d; have := EqT.hdep t.e
    simp [PyData.depth, PyData.depthAll]; omega, fun t => by simp [PyData.canLay0, PyData.canLayAll0, EqT.lay], fun a b => by
    cases a; cases b; simp [PyData.eqv, PyData.eqvAll, EqT.eq]⟩
variable {κ : Type} [Ty κ] {Γ : Ctx} {ps : List PI}
end
structure T6 (α γ δ ε ζ η : Type) where
  a : α
  b : γ
  c : δ
  d : ε
  e : ζ
  f : η
deriving DecidableEq
section
variable {α γ δ ε ζ η : Type} [Ty α] [Ty γ] [Ty δ] [Ty ε] [Ty ζ] [Ty η]
instance : Ty (T6 α γ δ ε ζ η) := ⟨fun t => .tup [enc t.a, enc t.b, enc t.c, enc t.d, enc t.e, enc t.f], fun t => by simp [sh, Ty.can], fun _ => by simp⟩
instance : NN (T6 α γ δ ε ζ η) := ⟨fun _ => rfl⟩
instance [Flat α] [Flat γ] [Flat δ] [Flat ε] [Flat ζ] [Flat η] : Flat (T6 α γ δ ε ζ η) := ⟨fun t => by simp [enc, clean, cleanL]; exact ⟨Flat.flat t.a, Flat.flat t.b, Flat.flat t.c, Flat.flat t.d, Flat.flat t.e, Flat.flat t.f⟩⟩
instance [EqT α] [EqT γ] [EqT δ] [EqT ε] [EqT ζ] [EqT η] : EqT (T6 α γ δ ε ζ η) := ⟨fun t => .tuple [EqT.py t.a, EqT.py t.b, EqT.py t.c, EqT.py t.d, EqT.py t.e, EqT.py t.f], fun t => by simp [enc, toPy, toPyL, EqT.to], 1 + max (EqT.dep α) (max (EqT.dep γ) (max (EqT.dep δ) (max (EqT.dep ε) (max (EqT.dep ζ) (EqT.dep η))))), fun t => by
    have := EqT.hdep t.a; have := EqT.hdep t.b; have := EqT.hdep t.c; have := EqT.hdep t.d; have := EqT.hdep t.e; have := EqT.hdep t.f
    simp [PyData.depth, PyData.depthAll]; omega, fun t => by simp [PyData.canLay0, PyData.canLayAll0, EqT.lay], fun a b => by
    cases a; cases b; simp [PyData.eqv, PyData.eqvAll, EqT.eq]⟩
variable {κ : Type} [Ty κ] {Γ : Ctx} {ps : List PI}
end
structure F6 (α γ δ ε ζ η : Type) where
  a : α
  b : γ
  c : δ
  d : ε
  e : ζ
  f : η
deriving DecidableEq
section
variable {α γ δ ε ζ η : Type} [Ty α] [Ty γ] [Ty δ] [Ty ε] [Ty ζ] [Ty η]
instance : Ty (F6 α γ δ ε ζ η) := ⟨fun t => .lst false [enc t.a, enc t.b, enc t.c, enc t.d, enc t.e, enc t.f], fun t => by simp [sh, Ty.can], fun _ => by simp⟩
instance : NN (F6 α γ δ ε ζ η) := ⟨fun _ => rfl⟩
instance [EqT α] [EqT γ] [EqT δ] [EqT ε] [EqT ζ] [EqT η] : EqT (F6 α γ δ ε ζ η) := ⟨fun t => .list [EqT.py t.a, EqT.py t.b, EqT.py t.c, EqT.py t.d, EqT.py t.e, EqT.py t.f], fun t => by simp [enc, toPy, toPyL, EqT.to], 1 + max (EqT.dep α) (max (EqT.dep γ) (max (EqT.dep δ) (max (EqT.dep ε) (max (EqT.dep ζ) (EqT.dep η))))), fun t => by
    have := EqT.hdep t.a; have := EqT.hdep t.b; have := EqT.hdep t.c; have := EqT.hdep t.d; have := EqT.hdep t.e; have := EqT.hdep t.f
    simp [PyData.depth, PyData.depthAll]; omega, fun t => by simp [PyData.canLay0, PyData.canLayAll0, EqT.lay], fun a b => by
    cases a; cases b; simp [PyData.eqv, PyData.eqvAll, EqT.eq]⟩
variable {κ : Type} [Ty κ] {Γ : Ctx} {ps : List PI}
end
structure T7 (α γ δ ε ζ η θ : Type) where
  a : α
  b : γ
  c : δ
  d : ε
  e : ζ
  f : η
  g : θ
deriving DecidableEq
section
variable {α γ δ ε ζ η θ : Type} [Ty α] [Ty γ] [Ty δ] [Ty ε] [Ty ζ] [Ty η] [Ty θ]
instance : Ty (T7 α γ δ ε ζ η θ) := ⟨fun t => .tup [enc t.a, enc t.b, enc t.c, enc t.d, enc t.e, enc t.f, enc t.g], fun t => by simp [sh, Ty.can], fun _ => by simp⟩
instance : NN (T7 α γ δ ε ζ η θ) := ⟨fun _ => rfl⟩
instance [Flat α] [Flat γ] [Flat δ] [Flat ε] [Flat ζ] [Flat η] [Flat θ] : Flat (T7 α γ δ ε ζ η θ) := ⟨fun t => by simp [enc, clean, cleanL]; exact ⟨Flat.flat t.a, Flat.flat t.b, Flat.flat t.c, Flat.flat t.d, Flat.flat t.e, Flat.flat t.f, Flat.flat t.g⟩⟩
instance [EqT α] [EqT γ] [EqT δ] [EqT ε] [EqT ζ] [EqT η] [EqT θ] : EqT (T7 α γ δ ε ζ η θ) := ⟨fun t => .tuple [EqT.py t.a, EqT.py t.b, EqT.py t.c, EqT.py t.d, EqT.py t.e, EqT.py t.f, EqT.py t.g], fun t => by simp [enc, toPy, toPyL, EqT.to], 1 + max (EqT.dep α) (max (EqT.dep γ) (max (EqT.dep δ) (max (EqT.dep ε) (max (EqT.dep ζ) (max (EqT.dep η) (EqT.dep θ)))))), fun t => by
    have := EqT.hdep t.a; have := EqT.hdep t.b; have := EqT.hdep t.c; have := EqT.hdep t.d; have := EqT.hdep t.e; have := EqT.hdep t.f; have := EqT.hdep t.g
    simp [PyData.depth, PyData.depthAll]; omega, fun t => by simp [PyData.canLay0, PyData.canLayAll0, EqT.lay], fun a b => by
    cases a; cases b; simp [PyData.eqv, PyData.eqvAll, EqT.eq]⟩
variable {κ : Type} [Ty κ] {Γ : Ctx} {ps : List PI}
end
structure F7 (α γ δ ε ζ η θ : Type) where
  a : α
  b : γ
  c : δ
  d : ε
  e : ζ
  f : η
  g : θ
deriving DecidableEq
section
variable {α γ δ ε ζ η θ : Type} [Ty α] [Ty γ] [Ty δ] [Ty ε] [Ty ζ] [Ty η] [Ty θ]
instance : Ty (F7 α γ δ ε ζ η θ) := ⟨fun t => .lst false [enc t.a, enc t.b, enc t.c, enc t.d, enc t.e, enc t.f, enc t.g], fun t => by simp [sh, Ty.can], fun _ => by simp⟩
instance : NN (F7 α γ δ ε ζ η θ) := ⟨fun _ => rfl⟩
instance [EqT α] [EqT γ] [EqT δ] [EqT ε] [EqT ζ] [EqT η] [EqT θ] : EqT (F7 α γ δ ε ζ η θ) := ⟨fun t => .list [EqT.py t.a, EqT.py t.b, EqT.py t.c, EqT.py t.d, EqT.py t.e, EqT.py t.f, EqT.py t.g], fun t => by simp [enc, toPy, toPyL, EqT.to], 1 + max (EqT.dep α) (max (EqT.dep γ) (max (EqT.dep δ) (max (EqT.dep ε) (max (EqT.dep ζ) (max (EqT.dep η) (EqT.dep θ)))))), fun t => by
    have := EqT.hdep t.a; have := EqT.hdep t.b; have := EqT.hdep t.c; have := EqT.hdep t.d; have := EqT.hdep t.e; have := EqT.hdep t.f; have := EqT.hdep t.g
    simp [PyData.depth, PyData.depthAll]; omega, fun t => by simp [PyData.canLay0, PyData.canLayAll0, EqT.lay], fun a b => by
    cases a; cases b; simp [PyData.eqv, PyData.eqvAll, EqT.eq]⟩
variable {κ : Type} [Ty κ] {Γ : Ctx} {ps : List PI}
end
end Fl
namespace Fl
open PySem PySem.Spec PyProof.Rows L2
section
variable {K : PySem.W.Frag} {W : Wh} {σ σ' : L2.St} {env env' : Env} {F A A' B C : List Addr} {Hs H Hs' H' Hs'' H'' Hs0 : Hp} {t ta tb : TE} {m ma mb : Exp} {d d1 d2 : D} {v : V} {P : List Nat} {s u : TS} {sm um : Stm}
/-- a for over a list of one's own that stands at a place: its items are handed over, and the list stays behind with things of which nothing is known -/
def sForP (i : Nat) (ps : List PI) (f : Tgt) (body : Stm) : Stm := fun env => match env[i]? with
  | none => .no
  | some c => match res env c ps with
    | none => .no
    | some js => match getN c js with
      | some (.lst true ds) => (match putN c js (.lst true ds), putN c js (.lst true (List.replicate ds.length .dead)) with
        | some _, some c2 => (match forL f body ds (env.set i .dead) with
          | .nx e => .nx (e.set i c2)
          | .rt d e => .rt d e
          | _ => .no)
        | _, _ => .no)
      | _ => .no
@[simp] theorem sForP_app {i : Nat} {ps : List PI} {f : Tgt} {b : Stm} : sForP i ps f b env = (match env[i]? with
  | none => .no
  | some c => match res env c ps with
    | none => .no
    | some js => match getN c js with
      | some (.lst true ds) => (match putN c js (.lst true ds), putN c js (.lst true (List.replicate ds.length .dead)) with
        | some _, some c2 => (match forL f b ds (env.set i .dead) with
          | .nx e => .nx (e.set i c2)
          | .rt d e => .rt d e
          | _ => .no)
        | _, _ => .no)
      | _ => .no) := rfl
end
end Fl
namespace Fl
open PySem
open Ty (enc)
variable {β : Type}
def JA : D → Prop := fun _ => True
def JL (n : Nat) (q : D → Prop) : D → Prop := fun d => ∃ ds, d = .lst true ds ∧ ds.length ≤ n ∧ ∀ x ∈ ds, q x
def JT (qs : List (D → Prop)) : D → Prop := fun d => ∃ ds, d = .tup ds ∧ Sat qs ds
class Jt (α : Type) [Ty α] where
  shp : D → Prop
  ok : α → Bool
  jof : ∀ (a : α) (d : D), ok a = true → Is (enc a) .cl d → shp d
instance : Jt Int := ⟨JA, fun _ => true, fun _ _ _ _ => trivial⟩
instance : Jt Bool := ⟨JA, fun _ => true, fun _ _ _ _ => trivial⟩
instance : Jt Str := ⟨JA, fun _ => true, fun _ _ _ _ => trivial⟩
instance : Jt Unit := ⟨JA, fun _ => true, fun _ _ _ _ => trivial⟩
instance : Jt Rat := ⟨JA, fun _ => true, fun _ _ _ _ => trivial⟩
section
variable {α γ δ : Type} [Ty α] [Ty γ] [Ty δ]
instance : Jt (Option α) := ⟨JA, fun _ => true, fun _ _ _ _ => trivial⟩
theorem jl_items : ∀ {xs : List α} {ds : List D}, shL ds = xs.map enc → cleanL ds = true → ∀ x ∈ ds, ∃ a ∈ xs, Is (enc a) .cl x
  | [], [], _, _, x, h => by cases h
  | [], _ :: _, h, _, _, _ => by simp at h
  | _ :: _, [], h, _, _, _ => by simp at h
  | a :: xs, d :: ds, h, c, x, hx => by
    simp [cleanL] at h c
    rcases List.mem_cons.mp hx with rfl | hx
    · exact ⟨a, List.mem_cons_self, h.1, c.1⟩
    · obtain ⟨b, hb, q⟩ := jl_items h.2 c.2 x hx
      exact ⟨b, List.mem_cons_of_mem _ hb, q⟩
instance [Jt α] : Jt (List α) := ⟨JL 90000 (Jt.shp α), fun xs => decide (xs.length ≤ 90000) && xs.all Jt.ok, fun xs d h hd => by
  obtain ⟨ds, rfl, e, c⟩ := is_listC hd
  simp only [Bool.and_eq_true, decide_eq_true_eq, List.all_eq_true] at h
  refine ⟨ds, rfl, ?_, fun x hx => ?_⟩
  · have := congrArg List.length e
    rw [shLmap] at this
    simp at this; omega
  · obtain ⟨a, ha, q⟩ := jl_items e c x hx
    exact Jt.jof a x (h.2 a ha) q⟩
theorem is_tupC {xs : List D} {d : D} (h : Is (.tup xs) .cl d) : ∃ ds, d = .tup ds ∧ shL ds = xs ∧ cleanL ds = true := by
  obtain ⟨h1, h2⟩ := h
  cases d <;> simp [sh] at h1
  exact ⟨_, rfl, h1, by simpa [mdB, clean] using h2⟩
theorem shL2 {ds : List D} {a b : D} (e : shL ds = [a, b]) : ∃ x y, ds = [x, y] ∧ sh x = a ∧ sh y = b := by
  rcases ds with _ | ⟨x, _ | ⟨y, _ | ⟨z, ds⟩⟩⟩ <;> simp at e
  exact ⟨x, y, rfl, e.1, e.2⟩
theorem shL3 {ds : List D} {a b c : D} (e : shL ds = [a, b, c]) : ∃ x y z, ds = [x, y, z] ∧ sh x = a ∧ sh y = b ∧ sh z = c := by
  rcases ds with _ | ⟨x, _ | ⟨y, _ | ⟨z, _ | ⟨u, ds⟩⟩⟩⟩ <;> simp at e
  exact ⟨x, y, z, rfl, e.1, e.2.1, e.2.2⟩
instance [Jt α] [Jt γ] : Jt (T2 α γ) := ⟨JT [Jt.shp α, Jt.shp γ], fun t => Jt.ok t.a && Jt.ok t.b, fun t d h hd => by
  obtain ⟨ds, rfl, e, c⟩ := is_tupC hd
  simp only [Bool.and_eq_true] at h
  obtain ⟨x, y, rfl, e1, e2⟩ := shL2 e
  simp [cleanL] at c
  exact ⟨_, rfl, Jt.jof t.a x h.1 ⟨e1, c.1⟩, Jt.jof t.b y h.2 ⟨e2, c.2⟩, trivial⟩⟩
instance [Jt α] [Jt γ] [Jt δ] : Jt (T3 α γ δ) := ⟨JT [Jt.shp α, Jt.shp γ, Jt.shp δ], fun t => Jt.ok t.a && Jt.ok t.b && Jt.ok t.c, fun t d h hd => by
  obtain ⟨ds, rfl, e, c⟩ := is_tupC hd
  simp only [Bool.and_eq_true] at h
  obtain ⟨x, y, z, rfl, e1, e2, e3⟩ := shL3 e
  simp [cleanL] at c
  exact ⟨_, rfl, Jt.jof t.a x h.1.1 ⟨e1, c.1⟩, Jt.jof t.b y h.1.2 ⟨e2, c.2.1⟩, Jt.jof t.c z h.2 ⟨e3, c.2.2⟩, trivial⟩⟩
end
section
variable {N : En β} {Γ Γ1 Γ2 Δ Δ1 Δ2 : Ctx} {w : M β} {Ψ : Ctx → M β → Prop} {s u body : Stm} {f : Tgt} {me : Exp} {P P2 q q2 p1 p2 p3 : D → Prop} {ps : List PI} {n : Nat}
/-- a part of which just its going on is wanted -/
def KG (Γ : Ctx) (me : Exp) : Prop := KE xT Γ me (M.ok ()) fun _ _ Γ1 w1 => Γ1 = Γ ∧ w1 = M.ok ()
theorem KG.go (h : KG Γ me) {env : Fl.Env} (sa : Sat Γ env) : ∃ d e, me env = .ok (d, e) ∧ Sat Γ e := by
  rcases h env sa (by simp) with ⟨d, e, x, μ, Γ', e1, _, e3, rfl, _⟩ | ⟨c, es, e, _, e2, _⟩
  · exact ⟨d, e, e1, e3⟩
  · cases e2
end
end Fl
namespace Fl
open PySem PySem.Spec PyProof.Rows L2
open Ty (enc)
/-- how many -/
def rgn (a b c : Int) : Nat := (if a < b then (b - a - 1) / c + 1 else 0).toNat
section
variable {K : PySem.W.Frag} {W : Wh} {σ : L2.St} {env : Fl.Env} {F A : List Addr} {Hs H Hs0 : Hp} {ms : Arg}
def rangeC (lo c : Int) (n : Nat) : List D := (List.range n).map fun i => .int (lo + (i : Nat) * c)
def iR3 (ms : Arg) : Itm := fun env => (ms env).bind fun p => match p.1 with
  | [.int a, .int b, .int c] => if (-1000000 ≤ a ∧ a ≤ 1000000) ∧ (-1000000 ≤ b ∧ b ≤ 1000000) ∧ (0 < c ∧ c ≤ 1000000) then .ok (rangeC a c (rgn a b c), p.2) else .no
  | _ => .no
@[simp] theorem iR3_app : iR3 ms env = (ms env).bind fun p => match p.1 with
  | [.int a, .int b, .int c] => if (-1000000 ≤ a ∧ a ≤ 1000000) ∧ (-1000000 ≤ b ∧ b ≤ 1000000) ∧ (0 < c ∧ c ≤ 1000000) then .ok (rangeC a c (rgn a b c), p.2) else .no
  | _ => .no := rfl
end
variable {β : Type}
end Fl
namespace Fl
open PySem PySem.Spec PyProof.Rows L2
/-- what stands behind the place of an exception that is handled -/
def xt (od : Option Addr) (es : List D) : List D := match od with
  | none => []
  | some dd => .int (dd : Int) :: es
def odB : Option Addr → List D → Bool
  | none, [] => true
  | some dd, .int k :: _ => decide (k = (dd : Int))
  | _, _ => false
theorem XoOk.at {Hs : Hp} {a : Addr} {j : Int} {l : List D} (h : XoOk Hs a (.int j :: l)) : j = (a : Int) := by
  rcases h with h | ⟨_, _, _, h, _⟩ <;> injection h with h _ <;> injection h
theorem XoOk.dict {Hs : Hp} {a dd : Addr} {j : Int} {l : List D} (h : XoOk Hs a (.int j :: l)) (ho : odB (some dd) l = true) : ∃ fs es, l = .int (dd : Int) :: es ∧ Hs dd = some (.xd fs) ∧ fs.map (fun p => (scD p.2).map fun d => D.tup [.str p.1, d]) = es.map some := by
  rcases h with h | ⟨d2, fs, es, h, h2, h3⟩
  · injection h with _ h; subst h; cases ho
  · injection h with _ h; subst h
    have e : (d2 : Int) = (dd : Int) := by simpa [odB] using ho
    have e := Int.ofNat_inj.mp e
    subst e
    exact ⟨fs, es, rfl, h2, h3⟩
theorem RL.exo_at {K : PySem.W.Frag} {Hs H : Hp} {v : V} {c : Str} {j : Int} {l : List D} {B : List Addr} (r : RL K Hs H [v] [.exo c (.int j :: l)] B) : ∃ a : Addr, v = .ref a ∧ j = (a : Int) ∧ XoOk Hs a (.int j :: l) := by
  cases r with
  | sc h _ => cases v <;> simp [scD] at h
  | exo h _ => exact ⟨_, rfl, h.at, h⟩
end Fl
namespace Fl
open PySem PySem.Spec PyProof.Rows L2
end Fl
namespace Fl
open PySem PySem.Spec PyProof.Rows L2
theorem _root_.L2H.RoomH.units {k : Nat} {A : Around} (r : L2H.RoomH k A) : A.units + 64 < cLine := by have := r.un; omega
end Fl
namespace Fl
open PySem PySem.Spec PyProof.Rows L2
end Fl
namespace Fl
open PySem
open Ty (enc)
variable {β : Type}
/-- equality of a truth or a fraction -/
instance : EqT (U2 Bool Rat) := ⟨fun u => match u with | .a b => .bool b | .b q => .tuple [.int q.num, .int (q.den : Int)], fun u => by cases u <;> rfl, 1, fun u => by cases u <;> simp [PyData.depth, PyData.depthAll], fun u => by cases u <;> rfl, fun a b => by
  cases a with
  | a x => cases b with
    | a y => simp [PyData.eqv]
    | b y => simp [PyData.eqv]
  | b x => cases b with
    | a y => simp [PyData.eqv]
    | b y =>
      rw [show (U2.b x : U2 Bool Rat) = U2.b y ↔ x = y by simp, ← rat_eq]
      simp [PyData.eqv, PyData.eqvAll]⟩
end Fl
namespace Fl
open PySem PySem.Spec PyProof.Rows L2
end Fl
namespace Fl
open PySem
open Ty (enc)
end Fl
namespace Fl
open PySem
open Ty (enc)
variable {β : Type}
section
variable {X : XP} {Γ : Ctx} {w : M β} {Ψ : D → Md → Ctx → M β → Prop} {ms : Arg}
abbrev hq (m : Fn) (cn : Str) (a : Addr) (od : Option Addr) (es : List D) : Fn := fun ds => m (.exo cn (.int (a : Int) :: xt od es) :: ds)
end
instance {α α' γ : Type} [Ty α] [Ty α'] [Ty γ] [Cst α α'] : Cst α (U2 α' γ) := ⟨fun a => .a (Cst.cst a), fun a => Cst.cst_eq (γ := α') a⟩
instance {α γ γ' : Type} [Ty α] [Ty γ] [Ty γ'] [Cst α γ'] : Cst α (U2 γ γ') := ⟨fun a => .b (Cst.cst a), fun a => Cst.cst_eq (γ := γ') a⟩
instance {α γ : Type} [Ty α] [Ty γ] [Cst α γ] : Cst (Option α) (Option γ) := ⟨fun o => o.map Cst.cst, fun o => by
  cases o with
  | none => rfl
  | some a => exact Cst.cst_eq (γ := γ) a⟩
/-- nothing of the one is alike to anything of the other -/
class Dj (α γ : Type) [Ty α] [Ty γ] [EqT α] [EqT γ] : Prop where
  no : ∀ (a : α) (c : γ), PyData.eqv (EqT.py a) (EqT.py c) = false ∧ PyData.eqv (EqT.py c) (EqT.py a) = false
instance (priority := low) {α γ : Type} [Ty α] [Ty γ] [EqT α] [EqT γ] [Dj α γ] : EqT (U2 α γ) := ⟨fun u => match u with | .a x => EqT.py x | .b y => EqT.py y, fun u => match u with | .a x => EqT.to x | .b y => EqT.to y, max (EqT.dep α) (EqT.dep γ), fun u => by
  cases u with
  | a x => exact Nat.le_trans (EqT.hdep x) (Nat.le_max_left _ _)
  | b y => exact Nat.le_trans (EqT.hdep y) (Nat.le_max_right _ _), fun u => match u with | .a x => EqT.lay x | .b y => EqT.lay y, fun u v => by
  cases u with
  | a x => cases v with
    | a y => simp [EqT.eq]
    | b y => simp [(Dj.no x y).1]
  | b x => cases v with
    | a y => simp [(Dj.no y x).2]
    | b y => simp [EqT.eq]⟩
instance {α γ : Type} [Ty α] [Ty γ] [EqT α] [EqT γ] : Dj Bool (T2 α γ) := ⟨fun a c => by simp [EqT.py, PyData.eqv]⟩
instance {α γ : Type} [Ty α] [Ty γ] [EqT α] [EqT γ] : Dj Int (T2 α γ) := ⟨fun a c => by simp [EqT.py, PyData.eqv]⟩
instance {α : Type} [Ty α] [EqT α] : Dj Int (List α) := ⟨fun a c => by simp [EqT.py, PyData.eqv]⟩
instance {α : Type} [Ty α] [EqT α] : Dj Bool (List α) := ⟨fun a c => by simp [EqT.py, PyData.eqv]⟩
instance : Dj Int Rat := ⟨fun a c => by simp [EqT.py, PyData.eqv]⟩
theorem SatA.app : ∀ {as cs : Ags} {ds es : List D}, SatA as ds → SatA cs es → SatA (as ++ cs) (ds ++ es)
  | [], _, [], _, _, h => h
  | _ :: _, _, _ :: _, _, ⟨h1, h2⟩, h => ⟨h1, h2.app h⟩
  | [], _, _ :: _, _, h, _ => h.elim
  | _ :: _, _, [], _, h, _ => h.elim
instance {α : Type} [Ty α] [EqT α] : Dj (List α) Int := ⟨fun a c => by simp [EqT.py, PyData.eqv]⟩
/-- a name's thing taken as of another type, its tree the same -/
theorem ks_nr {α γ β : Type} [Ty α] [Ty γ] {N : En β} {Γ : Ctx} {m : Stm} {Ψ : Ctx → M β → Prop} {u : α} {μ : Md} {f : α → M γ} {k : γ → M β} (i : Nat) (hf : ∀ a c, f a = .ok c → enc c = enc a) (hx : ∀ a c l, f a ≠ .ex c l) (hi : Γ[i]? = some (Is (enc u) μ)) (h : ∀ x, KS N (Γ.set i (Is (enc x) μ)) m (k x) Ψ) : KS N Γ m ((f u).bind k) Ψ := fun env sa hw => by
  cases hfu : f u with
  | no => rw [hfu] at hw; exact absurd rfl hw
  | ex c l => exact absurd hfu (hx u c l)
  | ok x =>
    rw [hfu] at hw
    have e : Γ.set i (Is (enc x) μ) = Γ := by
      obtain ⟨hl, he⟩ := List.getElem?_eq_some_iff.mp hi
      have : Is (enc x) μ = Γ[i] := by rw [hf u x hfu]; exact he.symm
      rw [this]; exact List.set_getElem_self hl
    exact h x env (by rw [e]; exact sa) hw
end Fl
namespace Fl
open PySem PySem.Spec PyProof.Rows L2
end Fl
namespace Fl
open PySem
open Ty (enc)
variable {β : Type}
/-- () -/
structure T0 where
  deriving DecidableEq
instance : Ty T0 := ⟨fun _ => .tup [], fun _ => rfl, fun _ => by decide⟩
/-- a thing of any kind -/
structure An where
  d : D
  can : sh d = d
  kind : kindD d ≠ none
instance : Ty An := ⟨An.d, An.can, An.kind⟩
def An.of {α : Type} [Ty α] (a : α) : An := ⟨enc a, Ty.can a, Ty.kind a⟩
@[simp] theorem An.enc_of {α : Type} [Ty α] (a : α) : enc (An.of a) = enc a := rfl
def An.int (a : An) : M Int := match a.d with
  | .int i => .ok i
  | _ => .no
@[simp] theorem An.int_of (i : Int) : (An.of i).int = .ok i := rfl
end Fl
namespace Fl
open PySem PySem.Spec PyProof.Rows L2
end Fl
namespace Fl
open PySem
open Ty (enc)
end Fl
namespace Fl
open PySem PySem.Spec PyProof.Rows L2
section
variable {K : PySem.W.Frag} {W : Wh} {Hs H Hs' H' : Hp} {m mk md : Exp}
theorem Ok.laid {A : List Addr} {p : Addr} {o : HO} (h : Ok Hs H A) (hp : H p = none) : Ok Hs (upd H p o) A :=
  ⟨fun a x e => by rw [upd_ne (ne_of_none (h.sub a x e) hp)]; exact h.sub a x e, h.nd, h.off, fun a c => by
    by_cases e : a = p
    · subst e; exact absurd hp (h.has a c)
    · rw [upd_ne e]; exact h.has a c⟩
end
end Fl
namespace Fl
open PySem
open Ty (enc)
end Fl
namespace Fl
open PySem PySem.Spec PyProof.Rows L2
end Fl
namespace Fl
open PySem
open Ty (enc)
variable {β : Type}
/-- an object of the class c that is nobody else's: its fields' things and modes -/
def ObA (c : Str) (ns : List Str) (fs : Ags) : D → Prop := fun d => ∃ ds, d = .obj true c ns ds ∧ SatA fs ds
theorem SatA.at : ∀ {as : Ags} {ds : List D} {j : Nat} {x : D} {μ : Md}, SatA as ds → as[j]? = some (x, μ) → ∃ d, ds[j]? = some d ∧ Is x μ d
  | a :: as, d :: ds, 0, x, μ, h, hj => by simp at hj; subst hj; exact ⟨d, rfl, h.1⟩
  | a :: as, d :: ds, j + 1, x, μ, h, hj => by
    obtain ⟨e, h1, h2⟩ := SatA.at (j := j) h.2 (by simpa using hj)
    exact ⟨e, by simpa using h1, h2⟩
  | [], [], j, x, μ, h, hj => by simp at hj
  | [], _ :: _, _, _, _, h, _ => h.elim
  | _ :: _, [], _, _, _, h, _ => h.elim
theorem SatA.set : ∀ {as : Ags} {ds : List D} {j : Nat} {x : D} {μ : Md} {d : D}, SatA as ds → Is x μ d → SatA (as.set j (x, μ)) (ds.set j d)
  | a :: as, d :: ds, 0, x, μ, e, h, hd => ⟨hd, h.2⟩
  | a :: as, d :: ds, j + 1, x, μ, e, h, hd => ⟨h.1, SatA.set h.2 hd⟩
  | [], [], j, x, μ, e, h, hd => trivial
  | [], _ :: _, _, _, _, _, h, _ => h.elim
  | _ :: _, [], _, _, _, _, h, _ => h.elim
theorem SatA.snoc : ∀ {as : Ags} {ds : List D} {x : D} {μ : Md} {d : D}, SatA as ds → Is x μ d → SatA (as ++ [(x, μ)]) (ds ++ [d])
  | a :: as, d :: ds, x, μ, e, h, hd => ⟨h.1, SatA.snoc h.2 hd⟩
  | [], [], x, μ, e, h, hd => ⟨hd, trivial⟩
  | [], _ :: _, _, _, _, h, _ => h.elim
  | _ :: _, [], _, _, _, h, _ => h.elim
/-- weaker, field by field -/
def WkA : Ags → Ags → Prop
  | [], [] => True
  | a :: as, b :: bs => (∀ d, Is a.1 a.2 d → Is b.1 b.2 d) ∧ WkA as bs
  | _, _ => False
theorem WkA.sat : ∀ {as bs : Ags} {ds : List D}, WkA as bs → SatA as ds → SatA bs ds
  | [], [], [], _, _ => trivial
  | a :: as, b :: bs, d :: ds, w, h => ⟨w.1 d h.1, WkA.sat w.2 h.2⟩
  | [], [], _ :: _, _, h => h.elim
  | [], _ :: _, _, w, _ => w.elim
  | _ :: _, [], _, w, _ => w.elim
  | _ :: _, _ :: _, [], _, h => h.elim
theorem ObA.dead {c : Str} {ns : List Str} {as : Ags} {d : D} (h : ObA c ns as d) : isDead d = false := by obtain ⟨ds, rfl, _⟩ := h; rfl
section
variable {X : XP} {N : En β} {Γ : Ctx} {w : M β} {Ψ : D → Md → Ctx → M β → Prop} {ΨS : Ctx → M β → Prop} {m me : Exp} {ms : Arg} {c f mn : Str} {ns : List Str} {fs : Ags} {xs : List D} {j : Nat}
theorem Bak.len {L Q : List Nat} : ∀ {k : Nat} {Γ Γ2 Δ : Ctx}, Bak L Q k Γ Γ2 Δ → Γ.length = Γ2.length
  | _, [], [], [], _ => rfl
  | k, P :: Γ, P2 :: Γ2, R :: Δ, h => congrArg Nat.succ (Bak.len h.2)
  | _, [], _ :: _, _, h => h.elim
  | _, [], [], _ :: _, h => h.elim
  | _, _ :: _, [], _, h => h.elim
  | _, _ :: _, _ :: _, [], h => h.elim
end
end Fl
namespace Fl
end Fl
set_option synthInstance.maxHeartbeats 400000
set_option synthInstance.maxSize 4000
namespace Fl
open PySem PySem.Spec PyProof.Rows L2
open Ty (enc)
noncomputable def f_is_whole (thing1 : Int) : M Bool :=
  (if (isiX "int" (enc (thing1 : Int))) then M.ok (!(isiX "bool" (enc (thing1 : Int)))) else M.ok false).bind fun (t2 : Bool) => M.ok t2
noncomputable def f_divisor (one1 : Int) (other2 : Int) : M Int :=
  (whM (ρ := Int) (fun (s3 : (Int × Int)) => M.ok ((decide ((0 : Int) < s3.2)) : Bool)) (fun (s3 : (Int × Int)) => (modI s3.1 s3.2).bind fun (n4 : Int) => M.ok (Ctl.nx (s3.2, n4))) ((one1.natAbs : Int), (other2.natAbs : Int))).bind fun c => c.go fun (s5 : (Int × Int)) => M.ok s5.1
noncomputable def f_is_fraction (thing1 : Rat) : M Bool :=
  (if (!(isiX "tuple" (enc (thing1 : Rat)))) then M.ok true else (if (!(decide (((2 : Int) : Int) = (2 : Int)))) then M.ok true else (f_is_whole thing1.num).call.bind fun (v2 : Bool) => (if (!v2) then M.ok true else (f_is_whole (thing1.den : Int)).call.bind fun (v3 : Bool) => M.ok (!v3)).bind fun (t4 : Bool) => M.ok t4).bind fun (t5 : Bool) => M.ok t5).bind fun (t6 : Bool) => (if t6 then M.ok false else (if (decide ((0 : Int) < (thing1.den : Int))) then (f_divisor thing1.num (thing1.den : Int)).call.bind fun (v7 : Int) => M.ok (decide ((v7 : Int) = (1 : Int))) else M.ok false).bind fun (t8 : Bool) => M.ok t8)
noncomputable def f_law_whole (found1 : Int) : M Bool :=
  (if (isiX "int" (enc (found1 : Int))) then M.ok (!(isiX "bool" (enc (found1 : Int)))) else M.ok false).bind fun (t2 : Bool) => M.ok t2
/-- _law_pool: Scr, Int -/
noncomputable def b_law_pool : Stm :=
  sSeq (sAsg (eC (.int 0)) (gN 2))
  (sSeq (sIf (bOf (eBin fLt (eV 1) (eBV gLen 0))) (sAsg (eIxV 0 (eV 1)) (gN 2)) (sPass))
  (sSeq (sAsg (eBin fMod (eBin mulD (eBin addD (eBin addD (eBin addD (eBin fMod (eV 2) (eC (.int 2147483629))) (eBin mulD (eBin mulD (eC (.int 7919)) (eV 1)) (eV 1))) (eBin mulD (eC (.int 48271)) (eV 1))) (eC (.int 11))) (eC (.int 39373))) (eC (.int 2147483647))) (gN 3))
  (sSeq (sIf (bOf (eBin fLt (eV 2) (eBin fPow (eC (.int 10)) (eC (.int 18))))) (sAsg (eC (.int 0)) (gN 2)) (sPass))
  (sRet (eLst (aC (eM 2) (aC (eBin addD (eBin fMod (eBin mulD (eV 3) (eV 3)) (eC (.int 2147483629))) (eC (.int 1))) (aN))))))))
noncomputable def m_law_pool : Fn := fnM 2 4 false b_law_pool
noncomputable def f_law_pool (script1 : Scr) (k2 : Int) : M (F2 Int Int) :=
  (if (decide (k2 < (script1.l.length : Int))) then ((ix script1.l k2).bind fun (v4 : Int) => M.ok v4 : M Int) else M.ok ((0 : Int))).bind fun (s3 : Int) => (modI s3 (2147483629 : Int)).bind fun (n5 : Int) => (mulI (7919 : Int) k2).bind fun (n6 : Int) => (mulI n6 k2).bind fun (n7 : Int) => (mulI (48271 : Int) k2).bind fun (n8 : Int) => (mulI (((n5 + n7) + n8) + (11 : Int)) (39373 : Int)).bind fun (n9 : Int) => (modI n9 (2147483647 : Int)).bind fun (n10 : Int) => (powI (10 : Int) (18 : Int)).bind fun (n11 : Int) => (if (decide (s3 < n11)) then (M.ok ((0 : Int)) : M Int) else M.ok s3).bind fun (s12 : Int) => (mulI n10 n10).bind fun (n13 : Int) => (modI n13 (2147483629 : Int)).bind fun (n14 : Int) => M.ok ((⟨s12, (n14 + (1 : Int))⟩ : (F2 Int Int)))
theorem s_law_pool (script1 : Scr) (k2 : Int) : SFa m_law_pool [enc script1, enc k2] (f_law_pool script1 k2) .cl := by
  unfold f_law_pool m_law_pool b_law_pool
  exact sfa [Is (enc script1) .any, Is (enc k2) .any, Tp, Tp] (ks_seq (ks_asg (ke_c (a := ((0 : Int) : Int)) rfl (kt_n 2 (ks_seq (ks_ifJ (kb_of (ke_bin (ke_vF 1 rfl (ke_bV (at_ rfl (fap (o_lenX ⟨_, rfl, by simp⟩) (f2p o_lt (⟨_, rfl, ⟨_, (fun (s3 : Int) => [Is (enc (script1 : Scr)) .any, Is (enc (k2 : Int)) .any, Is (enc (s3 : Int)) .cl, Tp]), _, _, _, _, rfl, rfl, (fun _ => ks_asg (ke_ixV 0 (at_ rfl trivial) (ke_vF 1 rfl (⟨_, rfl, at_ rfl (fxF iv_scr fun v4 => kt_n 2 (fj wk_refl))⟩)))), (fun _ => ks_pass (fj wk_refl)), fun s3 => ks_seq (ks_asg (ke_bin (ke_bin (ke_bin (ke_bin (ke_bin (ke_bin (ke_vF 2 rfl (ke_c (a := ((2147483629 : Int) : Int)) rfl (f2 o_mod fun n5 => ke_bin (ke_bin (ke_c (a := ((7919 : Int) : Int)) rfl (ke_vF 1 rfl (f2 o_mul fun n6 => ke_vF 1 rfl (f2 o_mul fun n7 => f2p o_add (ke_bin (ke_c (a := ((48271 : Int) : Int)) rfl (ke_vF 1 rfl (f2 o_mul fun n8 => f2p o_add (ke_c (a := ((11 : Int) : Int)) rfl (f2p o_add (ke_c (a := ((39373 : Int) : Int)) rfl (f2 o_mul fun n9 => ke_c (a := ((2147483647 : Int) : Int)) rfl (f2 o_mod fun n10 => kt_n 3 (ks_seq (ks_ifJ (kb_of (ke_bin (ke_vF 2 rfl (ke_bin (ke_c (a := ((10 : Int) : Int)) rfl (ke_c (a := ((18 : Int) : Int)) rfl (f2 o_pow fun n11 => f2p o_lt (⟨_, rfl, ⟨_, (fun (s12 : Int) => [Is (enc (script1 : Scr)) .any, Is (enc (k2 : Int)) .any, Is (enc (s12 : Int)) .cl, Is (enc (n10 : Int)) .cl]), _, _, _, _, rfl, rfl, (fun _ => ks_asg (ke_c (a := ((0 : Int) : Int)) rfl (kt_n 2 (fj wk_refl)))), (fun _ => ks_pass (fj wk_refl)), fun s12 => ks_ret (ke_lst (ka_cons (ke_m 2 rfl (ka_cons (ke_bin (ke_bin (ke_bin (ke_vF 3 rfl (ke_vF 3 rfl (f2 o_mul fun n13 => ke_c (a := ((2147483629 : Int) : Int)) rfl (f2 o_mod fun n14 => ke_c (a := ((1 : Int) : Int)) rfl (f2p o_add (ka_nil (fl (a := (⟨s12, (n14 + (1 : Int))⟩ : (F2 Int Int))) .cl (rtF (ν := .cl) (fun _ h => h))))))))))))))))⟩⟩))))))))))))))))))))))))))))))))))⟩⟩))))))))))))))
/-- _law_take: (F2 Int Int), Int -/
noncomputable def b_take2 : Stm :=
  sSeq (sIf (bOf (eBin fGt (eIxV 0 (eC (.int 0))) (eC (.int 0)))) (sSeq (sAsg (eBin fMod (eIxV 0 (eC (.int 0))) (eV 1)) (gN 2))
  (sSeq (sSetIx 0 (eBin fDiv (eIxV 0 (eC (.int 0))) (eV 1)) (eC (.int 0)))
  (sRet (eM 2)))) (sPass))
  (sSeq (sSetIx 0 (eBin fMod (eBin addD (eBin mulD (eIxV 0 (eC (.int 1))) (eC (.int 48271))) (eC (.int 12345))) (eC (.int 2147483647))) (eC (.int 1)))
  (sRet (eBin fMod (eBin fDiv (eBin fMod (eBin mulD (eIxV 0 (eC (.int 1))) (eIxV 0 (eC (.int 1)))) (eC (.int 2147483629))) (eC (.int 64))) (eV 1))))
noncomputable def m_take2 : Fn := fnM 2 3 true b_take2
noncomputable def f_take2 (pool_here1 : (F2 Int Int)) (many2 : Int) : M (Int × (F2 Int Int)) :=
  (if (decide ((0 : Int) < pool_here1.a)) then (modI pool_here1.a many2).bind fun (n3 : Int) => (divI pool_here1.a many2).bind fun (n4 : Int) => M.ok (n3, (⟨n4, pool_here1.b⟩ : (F2 Int Int))) else (mulI pool_here1.b (48271 : Int)).bind fun (n5 : Int) => (modI (n5 + (12345 : Int)) (2147483647 : Int)).bind fun (n6 : Int) => (mulI ((⟨pool_here1.a, n6⟩ : (F2 Int Int)).b) ((⟨pool_here1.a, n6⟩ : (F2 Int Int)).b)).bind fun (n7 : Int) => (modI n7 (2147483629 : Int)).bind fun (n8 : Int) => (divI n8 (64 : Int)).bind fun (n9 : Int) => (modI n9 many2).bind fun (n10 : Int) => M.ok (n10, (⟨pool_here1.a, n6⟩ : (F2 Int Int))))
theorem s_take2 (pool_here1 : (F2 Int Int)) (many2 : Int) : SFx m_take2 (enc pool_here1) [enc many2] (f_take2 pool_here1 many2) .cl := by
  unfold f_take2 m_take2 b_take2
  exact sfx [Is (enc pool_here1) .cl, Is (enc many2) .any, Tp] (ks_seq (ks_if (kb_of (ke_bin (ke_ixV 0 (at_ rfl trivial) (ke_c (a := ((0 : Int) : Int)) rfl (⟨_, rfl, at_ rfl (fxFp iv_f2a (ke_c (a := ((0 : Int) : Int)) rfl (f2p o_gt (⟨_, rfl, ⟨_, _, _, rfl, rfl, (fun _ => ks_seq (ks_asg (ke_bin (ke_ixV 0 (at_ rfl trivial) (ke_c (a := ((0 : Int) : Int)) rfl (⟨_, rfl, at_ rfl (fxFp iv_f2a (ke_vF 1 rfl (f2 o_mod fun n3 => kt_n 2 (ks_seq (ks_setF (α := Int) (γ := Int) 0 (ke_bin (ke_ixV 0 (at_ rfl trivial) (ke_c (a := ((0 : Int) : Int)) rfl (⟨_, rfl, at_ rfl (fxFp iv_f2a (ke_vF 1 rfl (f2 o_div fun n4 => ⟨at_ rfl trivial, ke_c (a := ((0 : Int) : Int)) rfl (⟨rfl, _, rfl, .inl ⟨_, rfl, rfl, ks_ret (ke_m 2 rfl (rtFx (ν := .cl) (fun _ h => h) rfl))⟩⟩)⟩)))⟩)))))))))⟩)))))), (fun _ => ks_pass (ks_seq (ks_setF (α := Int) (γ := Int) 0 (ke_bin (ke_bin (ke_bin (ke_ixV 0 (at_ rfl trivial) (ke_c (a := ((1 : Int) : Int)) rfl (⟨_, rfl, at_ rfl (fxFp iv_f2b (ke_c (a := ((48271 : Int) : Int)) rfl (f2 o_mul fun n5 => ke_c (a := ((12345 : Int) : Int)) rfl (f2p o_add (ke_c (a := ((2147483647 : Int) : Int)) rfl (f2 o_mod fun n6 => ⟨at_ rfl trivial, ke_c (a := ((1 : Int) : Int)) rfl (⟨rfl, _, rfl, .inr ⟨_, rfl, rfl, ks_ret (ke_bin (ke_bin (ke_bin (ke_bin (ke_ixV 0 (at_ rfl trivial) (ke_c (a := ((1 : Int) : Int)) rfl (⟨_, rfl, at_ rfl (fxFp iv_f2b (ke_ixV 0 (at_ rfl trivial) (ke_c (a := ((1 : Int) : Int)) rfl (⟨_, rfl, at_ rfl (fxFp iv_f2b (f2 o_mul fun n7 => ke_c (a := ((2147483629 : Int) : Int)) rfl (f2 o_mod fun n8 => ke_c (a := ((64 : Int) : Int)) rfl (f2 o_div fun n9 => ke_vF 1 rfl (f2 o_mod fun n10 => rtFx (ν := .cl) (fun _ h => h) rfl)))))⟩))))⟩)))))))⟩⟩)⟩))))))⟩)))))))))⟩⟩))))⟩)))))))
/-- _law_low: Int, Int -/
noncomputable def b_low : Stm :=
  sSeq (sAsg (eB gAbs (aC (eV 0) (aN))) (gN 2))
  (sSeq (sAsg (eV 1) (gN 3))
  (sSeq (sWhile (bOf (eBin fGt (eV 3) (eC (.int 0)))) (sPar 2 3 (aC (eV 3) (aC (eBin fMod (eV 2) (eV 3)) (aN)))))
  (sRet (eTup (aC (eBin fDiv (eV 0) (eV 2)) (aC (eBin fDiv (eV 1) (eV 2)) (aN)))))))
noncomputable def m_low : Fn := fnM 2 4 false b_low
noncomputable def f_low (top1 : Int) (bottom2 : Int) : M Rat :=
  (whM (ρ := Rat) (fun (s3 : (Int × Int)) => M.ok ((decide ((0 : Int) < s3.2)) : Bool)) (fun (s3 : (Int × Int)) => (modI s3.1 s3.2).bind fun (n4 : Int) => M.ok (Ctl.nx (s3.2, n4))) ((top1.natAbs : Int), bottom2)).bind fun c => c.go fun (s5 : (Int × Int)) => (divI top1 s5.1).bind fun (n6 : Int) => (divI bottom2 s5.1).bind fun (n7 : Int) => (toQ (⟨n6, n7⟩ : (T2 Int Int))).bind fun (q8 : Rat) => M.ok q8
theorem s_low (top1 : Int) (bottom2 : Int) : SFa m_low [enc top1, enc bottom2] (f_low top1 bottom2) .cl := by
  unfold f_low m_low b_low
  exact sfa [Is (enc top1) .any, Is (enc bottom2) .any, Tp, Tp] (ks_seq (ks_asg (ke_b (ka_cons (ke_vF 0 rfl (ka_nil (fap o_abs (kt_n 2 (ks_seq (ks_asg (ke_vF 1 rfl (kt_n 3 (ks_seq (ks_while (σ := (Int × Int)) (fun (s3 : (Int × Int)) => [Is (enc (top1 : Int)) .any, Is (enc (bottom2 : Int)) .any, Is (enc (s3.1 : Int)) .any, Is (enc (s3.2 : Int)) .any]) (wk_cons wk_i (wk_cons wk_i (wk_cons wk_a (wk_cons wk_a (wk_nil))))) (fun s3 => kb_of (ke_bin (ke_vF 3 rfl (ke_c (a := ((0 : Int) : Int)) rfl (f2p o_gt (⟨_, rfl, ⟨rfl, wk_refl⟩⟩)))))) (fun s3 _ => ks_par (ka_cons (ke_vF 3 rfl (ka_cons (ke_bin (ke_vF 2 rfl (ke_vF 3 rfl (f2 o_mod fun n4 => ka_nil (⟨_, _, _, _, rfl, fct (wk_cons wk_i (wk_cons wk_i (wk_cons wk_a (wk_cons wk_a (wk_nil)))))⟩))))))))) (fun s5 => ks_ret (ke_gd (ke_tup (ka_cons (ke_bin (ke_vF 0 rfl (ke_vF 2 rfl (f2 o_div fun n6 => ka_cons (ke_bin (ke_vF 1 rfl (ke_vF 2 rfl (f2 o_div fun n7 => ka_nil (ft (a := (⟨n6, n7⟩ : (T2 Int Int))) .cl (co_q fun q8 => rtF (ν := .cl) (fun _ h => h)))))))))))))))))))))))))))))
/-- _law_amount: (F2 Int Int) -/
noncomputable def b_amount2 : Stm :=
  sSeq (sAsg (eCallX m_take2 0 (aC (eC (.int 6)) (aN))) (gN 1))
  (sSeq (sIf (bOf (eBin fLt (eV 1) (eC (.int 3)))) (sRet (eTup (aC (eBin addD (eC (.int 1)) (eCallX m_take2 0 (aC (eC (.int 9)) (aN)))) (aC (eC (.int 1)) (aN))))) (sPass))
  (sSeq (sIf (bOf (eBin fLt (eV 1) (eC (.int 5)))) (sRet (eCall m_low (aC (eBin addD (eC (.int 1)) (eCallX m_take2 0 (aC (eC (.int 9)) (aN)))) (aC (eBin fSub (eV 1) (eC (.int 1))) (aN))))) (sPass))
  (sSeq (sAsg (eBin addD (eBin addD (eC (.int 1)) (eBin mulD (eCallX m_take2 0 (aC (eBin fPow (eC (.int 10)) (eC (.int 6))) (aN))) (eBin fPow (eC (.int 10)) (eC (.int 6))))) (eCallX m_take2 0 (aC (eBin fPow (eC (.int 10)) (eC (.int 6))) (aN)))) (gN 2))
  (sRet (eCall m_low (aC (eV 2) (aC (eBin addD (eC (.int 1)) (eCallX m_take2 0 (aC (eC (.int 9)) (aN)))) (aN))))))))
noncomputable def m_amount2 : Fn := fnM 1 3 true b_amount2
noncomputable def f_amount2 (pool_here1 : (F2 Int Int)) : M (Rat × (F2 Int Int)) :=
  (f_take2 pool_here1 (6 : Int)).call.bind2 fun (v2 : Int) (pool_here3 : (F2 Int Int)) => (if (decide (v2 < (3 : Int))) then (f_take2 pool_here3 (9 : Int)).call.bind2 fun (v4 : Int) (pool_here5 : (F2 Int Int)) => (toQ (⟨((1 : Int) + v4), (1 : Int)⟩ : (T2 Int Int))).bind fun (q6 : Rat) => M.ok (q6, pool_here5) else (if (decide (v2 < (5 : Int))) then (f_take2 pool_here3 (9 : Int)).call.bind2 fun (v7 : Int) (pool_here8 : (F2 Int Int)) => (f_low ((1 : Int) + v7) (v2 - (1 : Int))).call.bind fun (v9 : Rat) => M.ok (v9, pool_here8) else (powI (10 : Int) (6 : Int)).bind fun (n10 : Int) => (f_take2 pool_here3 n10).call.bind2 fun (v11 : Int) (pool_here12 : (F2 Int Int)) => (powI (10 : Int) (6 : Int)).bind fun (n13 : Int) => (mulI v11 n13).bind fun (n14 : Int) => (powI (10 : Int) (6 : Int)).bind fun (n15 : Int) => (f_take2 pool_here12 n15).call.bind2 fun (v16 : Int) (pool_here17 : (F2 Int Int)) => (f_take2 pool_here17 (9 : Int)).call.bind2 fun (v18 : Int) (pool_here19 : (F2 Int Int)) => (f_low (((1 : Int) + n14) + v16) ((1 : Int) + v18)).call.bind fun (v20 : Rat) => M.ok (v20, pool_here19)))
theorem s_amount2 (pool_here1 : (F2 Int Int)) : SFx m_amount2 (enc pool_here1) [] (f_amount2 pool_here1) .cl := by
  unfold f_amount2 m_amount2 b_amount2
  exact sfx [Is (enc pool_here1) .cl, Tp, Tp] (ks_seq (ks_asg (ke_callX 0 (at_ rfl trivial) (ka_cons (ke_c (a := ((6 : Int) : Int)) rfl (ka_nil (fcx (s_take2 pool_here1 (6 : Int)) fun v2 pool_here3 => kt_n 1 (ks_seq (ks_if (kb_of (ke_bin (ke_vF 1 rfl (ke_c (a := ((3 : Int) : Int)) rfl (f2p o_lt (⟨_, rfl, ⟨_, _, _, rfl, rfl, (fun _ => ks_ret (ke_gd (ke_tup (ka_cons (ke_bin (ke_c (a := ((1 : Int) : Int)) rfl (ke_callX 0 (at_ rfl trivial) (ka_cons (ke_c (a := ((9 : Int) : Int)) rfl (ka_nil (fcx (s_take2 pool_here3 (9 : Int)) fun v4 pool_here5 => f2p o_add (ka_cons (ke_c (a := ((1 : Int) : Int)) rfl (ka_nil (ft (a := (⟨((1 : Int) + v4), (1 : Int)⟩ : (T2 Int Int))) .cl (co_q fun q6 => rtFx (ν := .cl) (fun _ h => h) rfl)))))))))))))))), (fun _ => ks_pass (ks_seq (ks_if (kb_of (ke_bin (ke_vF 1 rfl (ke_c (a := ((5 : Int) : Int)) rfl (f2p o_lt (⟨_, rfl, ⟨_, _, _, rfl, rfl, (fun _ => ks_ret (ke_call (ka_cons (ke_bin (ke_c (a := ((1 : Int) : Int)) rfl (ke_callX 0 (at_ rfl trivial) (ka_cons (ke_c (a := ((9 : Int) : Int)) rfl (ka_nil (fcx (s_take2 pool_here3 (9 : Int)) fun v7 pool_here8 => f2p o_add (ka_cons (ke_bin (ke_vF 1 rfl (ke_c (a := ((1 : Int) : Int)) rfl (f2p o_sub (ka_nil (fc (s_low ((1 : Int) + v7) (v2 - (1 : Int))) fun v9 => rtFx (ν := .cl) (fun _ h => h) rfl))))))))))))))))), (fun _ => ks_pass (ks_seq (ks_asg (ke_bin (ke_bin (ke_c (a := ((1 : Int) : Int)) rfl (ke_bin (ke_callX 0 (at_ rfl trivial) (ka_cons (ke_bin (ke_c (a := ((10 : Int) : Int)) rfl (ke_c (a := ((6 : Int) : Int)) rfl (f2 o_pow fun n10 => ka_nil (fcx (s_take2 pool_here3 n10) fun v11 pool_here12 => ke_bin (ke_c (a := ((10 : Int) : Int)) rfl (ke_c (a := ((6 : Int) : Int)) rfl (f2 o_pow fun n13 => f2 o_mul fun n14 => f2p o_add (ke_callX 0 (at_ rfl trivial) (ka_cons (ke_bin (ke_c (a := ((10 : Int) : Int)) rfl (ke_c (a := ((6 : Int) : Int)) rfl (f2 o_pow fun n15 => ka_nil (fcx (s_take2 pool_here12 n15) fun v16 pool_here17 => f2p o_add (kt_n 2 (ks_ret (ke_call (ka_cons (ke_vF 2 rfl (ka_cons (ke_bin (ke_c (a := ((1 : Int) : Int)) rfl (ke_callX 0 (at_ rfl trivial) (ka_cons (ke_c (a := ((9 : Int) : Int)) rfl (ka_nil (fcx (s_take2 pool_here17 (9 : Int)) fun v18 pool_here19 => f2p o_add (ka_nil (fc (s_low (((1 : Int) + n14) + v16) ((1 : Int) + v18)) fun v20 => rtFx (ν := .cl) (fun _ h => h) rfl)))))))))))))))))))))))))))))))))))))))⟩⟩)))))))))⟩⟩)))))))))))))))
/-- _law_side: (F2 Int Int), Int -/
noncomputable def b_side2 : Stm :=
  sSeq (sAsg (eCallX m_take2 0 (aC (eC (.int 4)) (aN))) (gN 2))
  (sRet (eLc 4 (iR1 (aC (eV 1) (aN))) (gN 3) (bOf (eBin fLt (eCallX m_take2 0 (aC (eV 1) (aN))) (eV 2))) (eTup (aC (eV 3) (aC (eCallX m_amount2 0 (aN)) (aN)))) [3]))
noncomputable def m_side2 : Fn := fnM 2 4 true b_side2
noncomputable def f_side2 (pool_here1 : (F2 Int Int)) (many2 : Int) : M ((List (T2 Int Rat)) × (F2 Int Int)) :=
  (f_take2 pool_here1 (4 : Int)).call.bind2 fun (v3 : Int) (pool_here4 : (F2 Int Int)) => (rgM 0 many2).bind fun (xs5 : List Int) => (fltS (fun (x7 : Int) (s6 : (F2 Int Int)) => ((f_take2 s6 many2).call.bind2 fun (v8 : Int) (pool_here9 : (F2 Int Int)) => (if (decide (v8 < v3)) then (f_amount2 pool_here9 ).call.bind2 fun (v10 : Rat) (pool_here11 : (F2 Int Int)) => M.ok (some (⟨x7, v10⟩ : (T2 Int Rat)), pool_here11) else M.ok (none, pool_here9)) : M ((Option (T2 Int Rat)) × (F2 Int Int)))) xs5 pool_here4).bind2 fun (row13 : (List (T2 Int Rat))) (s12 : (F2 Int Int)) => M.ok (row13, s12)
theorem s_side2 (pool_here1 : (F2 Int Int)) (many2 : Int) : SFx m_side2 (enc pool_here1) [enc many2] (f_side2 pool_here1 many2) .cl := by
  unfold f_side2 m_side2 b_side2
  exact sfx [Is (enc pool_here1) .cl, Is (enc many2) .any, Tp, Tp] (ks_seq (ks_asg (ke_callX 0 (at_ rfl trivial) (ka_cons (ke_c (a := ((4 : Int) : Int)) rfl (ka_nil (fcx (s_take2 pool_here1 (4 : Int)) fun v3 pool_here4 => kt_n 2 (ks_ret (ke_fltS (α := Int) (γ := (T2 Int Rat)) (ki_R1 (ka_cons (ke_vF 1 rfl (ka_nil (⟨_, _, _, rfl, rfl, fun xs5 => ⟨_, (fun (s6 : (F2 Int Int)) => [Is (enc (s6 : (F2 Int Int))) .cl, Is (enc (many2 : Int)) .any, Is (enc (v3 : Int)) .any, Tp]), .cl, _, _, _, _, rfl, rfl, rfl, (wk_cons wk_i (wk_cons wk_i (wk_cons wk_a (wk_cons wk_t (wk_nil))))), (fun _ => (vs_c rfl vs_nil)), (fun x7 s6 => kt_n 3 (kb_of (ke_bin (ke_callX 0 (at_ rfl trivial) (ka_cons (ke_vF 1 rfl (ka_nil (fcx (s_take2 s6 many2) fun v8 pool_here9 => ke_vF 2 rfl (f2p o_lt (⟨_, rfl, twS (⟨_, rfl, wk_refl⟩) (ke_tup (ka_cons (ke_vF 3 rfl (ka_cons (ke_callX 0 (at_ rfl trivial) (ka_nil (fcx (s_amount2 pool_here9 ) fun v10 pool_here11 => ka_nil (ft (a := (⟨x7, v10⟩ : (T2 Int Rat))) .cl (⟨_, _, wk_i, rfl, wk_refl⟩)))))))))⟩)))))))))), fun row13 s12 => rtFx (ν := .cl) (fun _ h => h) rfl⟩⟩))))))))))))))
/-- _law_deed: (F2 Int Int), Int -/
noncomputable def b_deed2 : Stm :=
  sSeq (sAsg (eCallX m_take2 0 (aC (eC (.int 4)) (aN))) (gN 2))
  (sSeq (sAsg (eCallX m_take2 0 (aC (eV 1) (aN))) (gN 3))
  (sSeq (sIf (bOf (eBinL fEq 2 (eC (.int 0)))) (sRet (eTup (aC (eCallX m_side2 0 (aC (eV 1) (aN))) (aC (eCallX m_side2 0 (aC (eV 1) (aN))) (aN))))) (sPass))
  (sSeq (sAsg (eLst (aC (eTup (aC (eV 3) (aC (eCallX m_amount2 0 (aN)) (aN)))) (aN))) (gN 4))
  (sSeq (sAsg (eLst (aC (eTup (aC (eBin fMod (eBin addD (eBin addD (eV 3) (eC (.int 1))) (eCallX m_take2 0 (aC (eV 1) (aN)))) (eV 1)) (aC (eCallX m_amount2 0 (aN)) (aN)))) (aN))) (gN 5))
  (sSeq (sIf (bOf (eBinL fEq 2 (eC (.int 2)))) (sAsg (eG1 gItems (eBin addD (eV 5) (eLst (aC (eTup (aC (eV 3) (aC (eCallX m_amount2 0 (aN)) (aN)))) (aN))))) (gN 5)) (sPass))
  (sSeq (sIf (bOf (eBinL fEq 2 (eC (.int 3)))) (sAsg (eG1 gItems (eBin addD (eV 4) (eLst (aC (eTup (aC (eCallX m_take2 0 (aC (eV 1) (aN))) (aC (eCallX m_amount2 0 (aN)) (aN)))) (aN))))) (gN 4)) (sPass))
  (sRet (eTup (aC (eM 4) (aC (eM 5) (aN)))))))))))
noncomputable def m_deed2 : Fn := fnM 2 6 true b_deed2
noncomputable def f_deed2 (pool_here1 : (F2 Int Int)) (many2 : Int) : M ((T2 (List (T2 Int Rat)) (List (T2 Int Rat))) × (F2 Int Int)) :=
  (f_take2 pool_here1 (4 : Int)).call.bind2 fun (v3 : Int) (pool_here4 : (F2 Int Int)) => (f_take2 pool_here4 many2).call.bind2 fun (v5 : Int) (pool_here6 : (F2 Int Int)) => (if (decide ((v3 : Int) = (0 : Int))) then (f_side2 pool_here6 many2).call.bind2 fun (v7 : (List (T2 Int Rat))) (pool_here8 : (F2 Int Int)) => (f_side2 pool_here8 many2).call.bind2 fun (v9 : (List (T2 Int Rat))) (pool_here10 : (F2 Int Int)) => M.ok ((⟨v7, v9⟩ : (T2 (List (T2 Int Rat)) (List (T2 Int Rat)))), pool_here10) else (f_amount2 pool_here6 ).call.bind2 fun (v11 : Rat) (pool_here12 : (F2 Int Int)) => (f_take2 pool_here12 many2).call.bind2 fun (v13 : Int) (pool_here14 : (F2 Int Int)) => (modI ((v5 + (1 : Int)) + v13) many2).bind fun (n15 : Int) => (f_amount2 pool_here14 ).call.bind2 fun (v16 : Rat) (pool_here17 : (F2 Int Int)) => (if (decide ((v3 : Int) = (2 : Int))) then ((f_amount2 pool_here17 ).call.bind2 fun (v19 : Rat) (pool_here20 : (F2 Int Int)) => (catL ([(⟨n15, v16⟩ : (T2 Int Rat))] : (List (T2 Int Rat))) ([(⟨v5, v19⟩ : (T2 Int Rat))] : (List (T2 Int Rat)))).bind fun (xs21 : (List (T2 Int Rat))) => (itemsM xs21).bind fun (v22 : (List (T2 Int Rat))) => M.ok (pool_here20, v22) : M ((F2 Int Int) × (List (T2 Int Rat)))) else M.ok (pool_here17, ([(⟨n15, v16⟩ : (T2 Int Rat))] : (List (T2 Int Rat))))).bind fun (s18 : ((F2 Int Int) × (List (T2 Int Rat)))) => (if (decide ((v3 : Int) = (3 : Int))) then ((f_take2 s18.1 many2).call.bind2 fun (v24 : Int) (pool_here25 : (F2 Int Int)) => (f_amount2 pool_here25 ).call.bind2 fun (v26 : Rat) (pool_here27 : (F2 Int Int)) => (catL ([(⟨v5, v11⟩ : (T2 Int Rat))] : (List (T2 Int Rat))) ([(⟨v24, v26⟩ : (T2 Int Rat))] : (List (T2 Int Rat)))).bind fun (xs28 : (List (T2 Int Rat))) => (itemsM xs28).bind fun (v29 : (List (T2 Int Rat))) => M.ok (pool_here27, v29) : M ((F2 Int Int) × (List (T2 Int Rat)))) else M.ok (s18.1, ([(⟨v5, v11⟩ : (T2 Int Rat))] : (List (T2 Int Rat))))).bind fun (s23 : ((F2 Int Int) × (List (T2 Int Rat)))) => M.ok ((⟨s23.2, s18.2⟩ : (T2 (List (T2 Int Rat)) (List (T2 Int Rat)))), s23.1))
theorem s_deed2 (pool_here1 : (F2 Int Int)) (many2 : Int) : SFx m_deed2 (enc pool_here1) [enc many2] (f_deed2 pool_here1 many2) .cl := by
  unfold f_deed2 m_deed2 b_deed2
  exact sfx [Is (enc pool_here1) .cl, Is (enc many2) .any, Tp, Tp, Tp, Tp] (ks_seq (ks_asg (ke_callX 0 (at_ rfl trivial) (ka_cons (ke_c (a := ((4 : Int) : Int)) rfl (ka_nil (fcx (s_take2 pool_here1 (4 : Int)) fun v3 pool_here4 => kt_n 2 (ks_seq (ks_asg (ke_callX 0 (at_ rfl trivial) (ka_cons (ke_vF 1 rfl (ka_nil (fcx (s_take2 pool_here4 many2) fun v5 pool_here6 => kt_n 3 (ks_seq (ks_if (kb_of (ke_binL (at_ rfl trivial) (ke_c (a := ((0 : Int) : Int)) rfl (at_ rfl (f2p (o_eq (a := (v3 : Int)) (b := ((0 : Int) : Int))) (⟨_, rfl, ⟨_, _, _, rfl, rfl, (fun _ => ks_ret (ke_tup (ka_cons (ke_callX 0 (at_ rfl trivial) (ka_cons (ke_vF 1 rfl (ka_nil (fcx (s_side2 pool_here6 many2) fun v7 pool_here8 => ka_cons (ke_callX 0 (at_ rfl trivial) (ka_cons (ke_vF 1 rfl (ka_nil (fcx (s_side2 pool_here8 many2) fun v9 pool_here10 => ka_nil (ft (a := (⟨v7, v9⟩ : (T2 (List (T2 Int Rat)) (List (T2 Int Rat))))) .cl (rtFx (ν := .cl) (fun _ h => h) rfl))))))))))))))), (fun _ => ks_pass (ks_seq (ks_asg (ke_lst (ka_cons (ke_tup (ka_cons (ke_vF 3 rfl (ka_cons (ke_callX 0 (at_ rfl trivial) (ka_nil (fcx (s_amount2 pool_here6 ) fun v11 pool_here12 => ka_nil (ft (a := (⟨v5, v11⟩ : (T2 Int Rat))) .cl (ka_nil (fl (a := ([(⟨v5, v11⟩ : (T2 Int Rat))] : (List (T2 Int Rat)))) .cl (kt_n 4 (ks_seq (ks_asg (ke_lst (ka_cons (ke_tup (ka_cons (ke_bin (ke_bin (ke_bin (ke_vF 3 rfl (ke_c (a := ((1 : Int) : Int)) rfl (f2p o_add (ke_callX 0 (at_ rfl trivial) (ka_cons (ke_vF 1 rfl (ka_nil (fcx (s_take2 pool_here12 many2) fun v13 pool_here14 => f2p o_add (ke_vF 1 rfl (f2 o_mod fun n15 => ka_cons (ke_callX 0 (at_ rfl trivial) (ka_nil (fcx (s_amount2 pool_here14 ) fun v16 pool_here17 => ka_nil (ft (a := (⟨n15, v16⟩ : (T2 Int Rat))) .cl (ka_nil (fl (a := ([(⟨n15, v16⟩ : (T2 Int Rat))] : (List (T2 Int Rat)))) .cl (kt_n 5 (ks_seq (ks_ifJ (kb_of (ke_binL (at_ rfl trivial) (ke_c (a := ((2 : Int) : Int)) rfl (at_ rfl (f2p (o_eq (a := (v3 : Int)) (b := ((2 : Int) : Int))) (⟨_, rfl, ⟨_, (fun (s18 : ((F2 Int Int) × (List (T2 Int Rat)))) => [Is (enc (s18.1 : (F2 Int Int))) .cl, Is (enc (many2 : Int)) .any, Is (enc (v3 : Int)) .cl, Is (enc (v5 : Int)) .cl, Is (enc (([(⟨v5, v11⟩ : (T2 Int Rat))] : (List (T2 Int Rat))) : (List (T2 Int Rat)))) .cl, Is (enc (s18.2 : (List (T2 Int Rat)))) .cl]), _, _, _, _, rfl, rfl, (fun _ => ks_asg (ke_g1 (ke_bin (ke_v 5 rfl (ke_lst (ka_cons (ke_tup (ka_cons (ke_vF 3 rfl (ka_cons (ke_callX 0 (at_ rfl trivial) (ka_nil (fcx (s_amount2 pool_here17 ) fun v19 pool_here20 => ka_nil (ft (a := (⟨v5, v19⟩ : (T2 Int Rat))) .cl (ka_nil (fl (a := ([(⟨v5, v19⟩ : (T2 Int Rat))] : (List (T2 Int Rat)))) .cl (f2 o_addLF fun xs21 => fi oi_items fun v22 => kt_n 5 (fj wk_refl)))))))))))))))))), (fun _ => ks_pass (fj wk_refl)), fun s18 => ks_seq (ks_ifJ (kb_of (ke_binL (at_ rfl trivial) (ke_c (a := ((3 : Int) : Int)) rfl (at_ rfl (f2p (o_eq (a := (v3 : Int)) (b := ((3 : Int) : Int))) (⟨_, rfl, ⟨_, (fun (s23 : ((F2 Int Int) × (List (T2 Int Rat)))) => [Is (enc (s23.1 : (F2 Int Int))) .cl, Is (enc (many2 : Int)) .any, Is (enc (v3 : Int)) .cl, Is (enc (v5 : Int)) .cl, Is (enc (s23.2 : (List (T2 Int Rat)))) .cl, Is (enc (s18.2 : (List (T2 Int Rat)))) .cl]), _, _, _, _, rfl, rfl, (fun _ => ks_asg (ke_g1 (ke_bin (ke_v 4 rfl (ke_lst (ka_cons (ke_tup (ka_cons (ke_callX 0 (at_ rfl trivial) (ka_cons (ke_vF 1 rfl (ka_nil (fcx (s_take2 s18.1 many2) fun v24 pool_here25 => ka_cons (ke_callX 0 (at_ rfl trivial) (ka_nil (fcx (s_amount2 pool_here25 ) fun v26 pool_here27 => ka_nil (ft (a := (⟨v24, v26⟩ : (T2 Int Rat))) .cl (ka_nil (fl (a := ([(⟨v24, v26⟩ : (T2 Int Rat))] : (List (T2 Int Rat)))) .cl (f2 o_addLF fun xs28 => fi oi_items fun v29 => kt_n 4 (fj wk_refl))))))))))))))))))))), (fun _ => ks_pass (fj wk_refl)), fun s23 => ks_ret (ke_tup (ka_cons (ke_m 4 rfl (ka_cons (ke_m 5 rfl (ka_nil (ft (a := (⟨s23.2, s18.2⟩ : (T2 (List (T2 Int Rat)) (List (T2 Int Rat))))) .cl (rtFx (ν := .cl) (fun _ h => h) rfl))))))))⟩⟩)))))))⟩⟩))))))))))))))))))))))))))))))))))))))))))))))))))⟩⟩))))))))))))))))))))))
/-- _law_stand: (F2 Int Int), Int -/
noncomputable def b_stand2 : Stm :=
  sSeq (sAsg (eCallX m_take2 0 (aC (eC (.int 4)) (aN))) (gN 2))
  (sSeq (sAsg (eLst (aN)) (gN 3))
  (sSeq (sFor (iR1 (aC (eV 1) (aN))) (gN 4)
  (sSeq (sAsg (eCallX m_amount2 0 (aN)) (gN 5))
  (sApp 3 (eIx (eLst (aC (eTup (aC (eC (.int 0)) (aC (eC (.int 1)) (aN)))) (aC (eV 5) (aN)))) (eB gInt (aC (eBin fLt (eCallX m_take2 0 (aC (eC (.int 4)) (aN))) (eV 2)) (aN)))))))
  (sRet (eM 3))))
noncomputable def m_stand2 : Fn := fnM 2 6 true b_stand2
noncomputable def f_stand2 (pool_here1 : (F2 Int Int)) (many2 : Int) : M ((List Rat) × (F2 Int Int)) :=
  (f_take2 pool_here1 (4 : Int)).call.bind2 fun (v3 : Int) (pool_here4 : (F2 Int Int)) => (rgM 0 many2).bind fun (xs5 : List Int) => (forN (fun (x7 : Int) (s6 : ((F2 Int Int) × (List Rat))) => (f_amount2 s6.1 ).call.bind2 fun (v8 : Rat) (pool_here9 : (F2 Int Int)) => (f_take2 pool_here9 (4 : Int)).call.bind2 fun (v10 : Int) (pool_here11 : (F2 Int Int)) => (ix ([(0 : Rat), v8] : (List Rat)) (boolI (decide (v10 < v3)))).bind fun (v12 : Rat) => (appL s6.2 v12).bind fun (found13 : (List Rat)) => M.ok (pool_here11, found13)) xs5 (pool_here4, ([] : (List Rat)))).bind fun (s14 : ((F2 Int Int) × (List Rat))) => M.ok (s14.2, s14.1)
theorem s_stand2 (pool_here1 : (F2 Int Int)) (many2 : Int) : SFx m_stand2 (enc pool_here1) [enc many2] (f_stand2 pool_here1 many2) .cl := by
  unfold f_stand2 m_stand2 b_stand2
  exact sfx [Is (enc pool_here1) .cl, Is (enc many2) .any, Tp, Tp, Tp, Tp] (ks_seq (ks_asg (ke_callX 0 (at_ rfl trivial) (ka_cons (ke_c (a := ((4 : Int) : Int)) rfl (ka_nil (fcx (s_take2 pool_here1 (4 : Int)) fun v3 pool_here4 => kt_n 2 (ks_seq (ks_asg (ke_lst (ka_nil (fl (a := ([] : (List Rat))) .cl (kt_n 3 (ks_seq (ks_for (α := Int) (ki_R1 (ka_cons (ke_vF 1 rfl (ka_nil (⟨_, _, _, rfl, rfl, fun xs5 => ⟨_, (fun (s6 : ((F2 Int Int) × (List Rat))) => [Is (enc (s6.1 : (F2 Int Int))) .cl, Is (enc (many2 : Int)) .any, Is (enc (v3 : Int)) .any, Is (enc (s6.2 : (List Rat))) .cl, Tp, Tp]), _, _, _, _, rfl, rfl, (wk_cons wk_i (wk_cons wk_i (wk_cons wk_a (wk_cons wk_i (wk_cons wk_t (wk_cons wk_t (wk_nil))))))), (fun x7 s6 => kt_n 4 (ks_seq (ks_asg (ke_callX 0 (at_ rfl trivial) (ka_nil (fcx (s_amount2 s6.1 ) fun v8 pool_here9 => kt_n 5 (ks_app (α := Rat) 3 sm_flat _ ⟨_, rfl⟩ (ke_ix (ke_lst (ka_cons (ke_tup (ka_cons (ke_c (a := ((0 : Int) : Int)) rfl (ka_cons (ke_c (a := ((1 : Int) : Int)) rfl (ka_nil (ft (a := (0 : Rat)) .cl (ka_cons (ke_vF 5 rfl (ka_nil (fl (a := ([(0 : Rat), v8] : (List Rat))) .cl (ke_b (ka_cons (ke_bin (ke_callX 0 (at_ rfl trivial) (ka_cons (ke_c (a := ((4 : Int) : Int)) rfl (ka_nil (fcx (s_take2 pool_here9 (4 : Int)) fun v10 pool_here11 => ke_vF 2 rfl (f2p o_lt (ka_nil (fap o_int (⟨_, rfl, feF iv_list fun v12 => ⟨_, _, _, rfl, rfl, rfl, rfl, fun found13 => fj (wk_cons wk_i (wk_cons wk_i (wk_cons wk_i (wk_cons wk_i (wk_cons wk_t (wk_cons wk_t (wk_nil)))))))⟩⟩))))))))))))))))))))))))))))))))), fun s14 => ks_ret (ke_m 3 rfl (rtFx (ν := .cl) (fun _ h => h) rfl))⟩⟩))))))))))))))))))))
/-- _law_some: (F2 Int Int), Int -/
noncomputable def b_law_some : Stm :=
  sSeq (sAsg (eCallX m_take2 0 (aC (eC (.int 3)) (aN))) (gN 2))
  (sSeq (sIf (bOf (eBinL fEq 2 (eC (.int 0)))) (sRet (eB gLR1 (aC (eV 1) (aN)))) (sPass))
  (sRet (eLc 4 (iR1 (aC (eV 1) (aN))) (gN 3) (bOf (eBin fLt (eCallX m_take2 0 (aC (eC (.int 3)) (aN))) (eV 2))) (eV 3) [3])))
noncomputable def m_law_some : Fn := fnM 2 4 true b_law_some
noncomputable def f_law_some (pool_here1 : (F2 Int Int)) (count2 : Int) : M ((List Int) × (F2 Int Int)) :=
  (f_take2 pool_here1 (3 : Int)).call.bind2 fun (v3 : Int) (pool_here4 : (F2 Int Int)) => (if (decide ((v3 : Int) = (0 : Int))) then (rgM 0 count2).bind fun (xs5 : List Int) => M.ok (xs5, pool_here4) else (rgM 0 count2).bind fun (xs6 : List Int) => (fltS (fun (x8 : Int) (s7 : (F2 Int Int)) => ((f_take2 s7 (3 : Int)).call.bind2 fun (v9 : Int) (pool_here10 : (F2 Int Int)) => (if (decide (v9 < v3)) then M.ok (some x8, pool_here10) else M.ok (none, pool_here10)) : M ((Option Int) × (F2 Int Int)))) xs6 pool_here4).bind2 fun (row12 : (List Int)) (s11 : (F2 Int Int)) => M.ok (row12, s11))
theorem s_law_some (pool_here1 : (F2 Int Int)) (count2 : Int) : SFx m_law_some (enc pool_here1) [enc count2] (f_law_some pool_here1 count2) .cl := by
  unfold f_law_some m_law_some b_law_some
  exact sfx [Is (enc pool_here1) .cl, Is (enc count2) .any, Tp, Tp] (ks_seq (ks_asg (ke_callX 0 (at_ rfl trivial) (ka_cons (ke_c (a := ((3 : Int) : Int)) rfl (ka_nil (fcx (s_take2 pool_here1 (3 : Int)) fun v3 pool_here4 => kt_n 2 (ks_seq (ks_if (kb_of (ke_binL (at_ rfl trivial) (ke_c (a := ((0 : Int) : Int)) rfl (at_ rfl (f2p (o_eq (a := (v3 : Int)) (b := ((0 : Int) : Int))) (⟨_, rfl, ⟨_, _, _, rfl, rfl, (fun _ => ks_ret (ke_b (ka_cons (ke_vF 1 rfl (ka_nil (fa o_lr1 fun xs5 => rtFx (ν := .cl) (fun _ h => h) rfl)))))), (fun _ => ks_pass (ks_ret (ke_fltS (α := Int) (γ := Int) (ki_R1 (ka_cons (ke_vF 1 rfl (ka_nil (⟨_, _, _, rfl, rfl, fun xs6 => ⟨_, (fun (s7 : (F2 Int Int)) => [Is (enc (s7 : (F2 Int Int))) .cl, Is (enc (count2 : Int)) .any, Is (enc (v3 : Int)) .any, Tp]), .cl, _, _, _, _, rfl, rfl, rfl, (wk_cons wk_i (wk_cons wk_i (wk_cons wk_a (wk_cons wk_t (wk_nil))))), (fun _ => (vs_c rfl vs_nil)), (fun x8 s7 => kt_n 3 (kb_of (ke_bin (ke_callX 0 (at_ rfl trivial) (ka_cons (ke_c (a := ((3 : Int) : Int)) rfl (ka_nil (fcx (s_take2 s7 (3 : Int)) fun v9 pool_here10 => ke_vF 2 rfl (f2p o_lt (⟨_, rfl, twS (⟨_, rfl, wk_refl⟩) (ke_vF 3 rfl (⟨_, _, wk_i, rfl, wk_refl⟩))⟩)))))))))), fun row12 s11 => rtFx (ν := .cl) (fun _ h => h) rfl⟩⟩))))))))⟩⟩)))))))))))))))
/-- gives_to: (T2 Int (List (T2 (List (T2 Int Rat)) (List (T2 Int Rat))))), Int -/
noncomputable def b_gives_to : Stm :=
  sRet (eLc 4 (iL (eIx (eIx (eIxV 0 (eC (.int 1))) (eV 1)) (eC (.int 1)))) (gT 2 (gsC (gN 2) (gsC (gN 3) (gsN)))) (bYes) (eV 2) [2, 3])
noncomputable def m_gives_to : Fn := fnM 2 4 false b_gives_to
noncomputable def f_gives_to (net1 : (T2 Int (List (T2 (List (T2 Int Rat)) (List (T2 Int Rat)))))) (deed2 : Int) : M (List Int) :=
  (ix net1.b deed2).bind fun (v3 : (T2 (List (T2 Int Rat)) (List (T2 Int Rat)))) => (mapM (fun (x5 : (T2 Int Rat)) => (M.ok x5.a : M Int)) v3.b).bind fun (row7 : (List Int)) => M.ok row7
theorem s_gives_to (net1 : (T2 Int (List (T2 (List (T2 Int Rat)) (List (T2 Int Rat)))))) (deed2 : Int) : SFa m_gives_to [enc net1, enc deed2] (f_gives_to net1 deed2) .cl := by
  unfold f_gives_to m_gives_to b_gives_to
  exact sfa [Is (enc net1) .any, Is (enc deed2) .any, Tp, Tp] (ks_ret (ke_mapM (α := (T2 Int Rat)) (γ := Int) (ki_L (ke_ix (ke_ix (ke_ixV 0 (at_ rfl trivial) (ke_c (a := ((1 : Int) : Int)) rfl (⟨_, rfl, at_ rfl (fxAp iv_2b rfl (ke_vF 1 rfl (⟨_, rfl, feN iv_list fun v3 => ke_c (a := ((1 : Int) : Int)) rfl (⟨_, rfl, feNp iv_2b (⟨_, rfl, ⟨[Is (enc (net1 : (T2 Int (List (T2 (List (T2 Int Rat)) (List (T2 Int Rat))))))) .any, Is (enc (deed2 : Int)) .any, Tp, Tp], .cl, _, _, _, rfl, rfl, rfl, wk_refl, (vs_c rfl (vs_c rfl vs_nil)), (fun x5 => kt_2 (kt_n 2 (kt_n 3 (ke_vF 2 rfl (⟨_, wk_i, rfl, wk_refl⟩))))), fun row7 => rtF (ν := .cl) (fun _ h => h)⟩⟩)⟩)⟩)))⟩))))))))
/-- have_some: (List Int), (List Int) -/
noncomputable def b_have_some : Stm :=
  sRet (eBin fGt (eB gLen (aC (eLc 3 (iL (eV 0)) (gN 2) (bOf (eBinV fIn (eV 2) 1)) (eV 2) [2]) (aN))) (eC (.int 0)))
noncomputable def m_have_some : Fn := fnM 2 3 false b_have_some
noncomputable def f_have_some (places1 : (List Int)) (others2 : (List Int)) : M Bool :=
  (fltM (fun (x4 : Int) => ((if (decide (x4 ∈ others2)) then M.ok (some x4) else M.ok none) : M (Option Int))) places1).bind fun (row6 : (List Int)) => M.ok ((decide ((0 : Int) < (row6.length : Int))))
theorem s_have_some (places1 : (List Int)) (others2 : (List Int)) : SFa m_have_some [enc places1, enc others2] (f_have_some places1 others2) .cl := by
  unfold f_have_some m_have_some b_have_some
  exact sfa [Is (enc places1) .any, Is (enc others2) .any, Tp] (ks_ret (ke_bin (ke_b (ka_cons (ke_fltM (α := Int) (γ := Int) (ki_L (ke_va 0 rfl (⟨_, rfl, ⟨[Is (enc (places1 : (List Int))) .any, Is (enc (others2 : (List Int))) .any, Tp], .cl, _, _, _, rfl, rfl, rfl, wk_refl, (vs_c rfl vs_nil), (fun x4 => kt_n 2 (kb_of (ke_binV (ke_vF 2 rfl (at_ rfl (f2p o_in (⟨_, rfl, twM (⟨rfl, wk_refl⟩) (ke_vF 2 rfl (⟨_, wk_i, rfl, wk_refl⟩))⟩))))))), fun row6 => ka_nil (fap o_len (ke_c (a := ((0 : Int) : Int)) rfl (f2p o_gt (rtF (ν := .cl) (fun _ h => h)))))⟩⟩))))))))
/-- takes_from: (T2 Int (List (T2 (List (T2 Int Rat)) (List (T2 Int Rat))))), Int -/
noncomputable def b_takes_from : Stm :=
  sRet (eLc 4 (iL (eIx (eIx (eIxV 0 (eC (.int 1))) (eV 1)) (eC (.int 0)))) (gT 2 (gsC (gN 2) (gsC (gN 3) (gsN)))) (bYes) (eV 2) [2, 3])
noncomputable def m_takes_from : Fn := fnM 2 4 false b_takes_from
noncomputable def f_takes_from (net1 : (T2 Int (List (T2 (List (T2 Int Rat)) (List (T2 Int Rat)))))) (deed2 : Int) : M (List Int) :=
  (ix net1.b deed2).bind fun (v3 : (T2 (List (T2 Int Rat)) (List (T2 Int Rat)))) => (mapM (fun (x5 : (T2 Int Rat)) => (M.ok x5.a : M Int)) v3.a).bind fun (row7 : (List Int)) => M.ok row7
theorem s_takes_from (net1 : (T2 Int (List (T2 (List (T2 Int Rat)) (List (T2 Int Rat)))))) (deed2 : Int) : SFa m_takes_from [enc net1, enc deed2] (f_takes_from net1 deed2) .cl := by
  unfold f_takes_from m_takes_from b_takes_from
  exact sfa [Is (enc net1) .any, Is (enc deed2) .any, Tp, Tp] (ks_ret (ke_mapM (α := (T2 Int Rat)) (γ := Int) (ki_L (ke_ix (ke_ix (ke_ixV 0 (at_ rfl trivial) (ke_c (a := ((1 : Int) : Int)) rfl (⟨_, rfl, at_ rfl (fxAp iv_2b rfl (ke_vF 1 rfl (⟨_, rfl, feN iv_list fun v3 => ke_c (a := ((0 : Int) : Int)) rfl (⟨_, rfl, feNp iv_2a (⟨_, rfl, ⟨[Is (enc (net1 : (T2 Int (List (T2 (List (T2 Int Rat)) (List (T2 Int Rat))))))) .any, Is (enc (deed2 : Int)) .any, Tp, Tp], .cl, _, _, _, rfl, rfl, rfl, wk_refl, (vs_c rfl (vs_c rfl vs_nil)), (fun x5 => kt_2 (kt_n 2 (kt_n 3 (ke_vF 2 rfl (⟨_, wk_i, rfl, wk_refl⟩))))), fun row7 => rtF (ν := .cl) (fun _ h => h)⟩⟩)⟩)⟩)))⟩))))))))
end Fl
namespace Fl
open PySem
theorem mulI_of {a b : Int} {n m : Nat} (ha : a.natAbs < 2 ^ n) (hb : b.natAbs < 2 ^ m) (h : n + m < 1000000) : mulI a b = .ok (a * b) := by
  have lg : ∀ {x k : Nat}, x < 2 ^ k → x.log2 ≤ k := fun {x k} h => by
    by_cases hx : x = 0
    · subst hx; simp
    · exact Nat.le_of_lt ((Nat.log2_lt hx).mpr h)
  have h1 := lg ha
  have h2 := lg hb
  exact if_pos (by omega)
theorem mulI_small {a b : Int} (ha : a.natAbs < 2 ^ 100) (hb : b.natAbs < 2 ^ 100) : mulI a b = .ok (a * b) := mulI_of ha hb (by decide)
/-- small enough to divide by -/
def Lm (n : Nat) : Prop := n < 2 ^ 400000
theorem Lm.le {m n : Nat} (h : Lm n) (hm : m ≤ n) : Lm m := Nat.lt_of_le_of_lt hm h
theorem divI_of {a b : Int} (h : 0 < b) (hs : Lm b.natAbs) : divI a b = .ok (a / b) := by
  have h2 : b.natAbs ≠ 0 := by omega
  have h3 : b ≠ 0 := by omega
  have h4 : 0 ≤ b := by omega
  unfold divI
  rw [if_pos h3, Int.fdiv_eq_ediv_of_nonneg _ h4]
theorem lim9 {a n : Nat} (h : a < 2 ^ n) (hn : n ≤ 400000) : Lm a := Nat.lt_of_lt_of_le h (Nat.pow_le_pow_right (by decide) hn)
theorem divI_small {a b : Int} (h : 0 < b) (hs : b < 2 ^ 100) : divI a b = .ok (a / b) := divI_of h (lim9 (n := 100) (by omega) (by decide))
theorem modI_of {a b : Int} (h : 0 < b) : modI a b = .ok (a % b) := by
  unfold modI
  rw [if_pos (by omega), Int.fmod_eq_emod_of_nonneg _ (by omega)]
@[simp] theorem powI_18 : powI 10 18 = .ok 1000000000000000000 := rfl
@[simp] theorem powI_15 : powI 10 15 = .ok 1000000000000000 := rfl
@[simp] theorem powI_12 : powI 10 12 = .ok 1000000000000 := rfl
@[simp] theorem powI_6 : powI 10 6 = .ok 1000000 := rfl
@[simp] theorem powI_9 : powI 10 9 = .ok 1000000000 := rfl
@[simp] theorem powI_3 : powI 10 3 = .ok 1000 := rfl
@[simp] theorem rgM_nat (n : Nat) (h : n ≤ 1000000) : rgM 0 (n : Int) = .ok (rg 0 n) := if_pos (by omega)
theorem rgM_of {n : Int} (h0 : 0 ≤ n) (h : n ≤ 1000000) : rgM 0 n = .ok (rg 0 n) := if_pos (by omega)
theorem rg0 (n : Nat) : rg 0 (n : Int) = (List.range n).map fun i : Nat => (i : Int) := by simp [rg]
@[simp] theorem len_rg (a b : Int) : (rg a b).length = (b - a).toNat := by simp [rg]
theorem mem_rg {a b k : Int} : k ∈ rg a b ↔ a ≤ k ∧ k < b := by
  unfold rg
  simp only [List.mem_map, List.mem_range]
  constructor
  · rintro ⟨i, h, rfl⟩; omega
  · intro h; exact ⟨(k - a).toNat, by omega, by omega⟩
@[simp] theorem get_rg {a b : Int} {i : Nat} (h : i < (rg a b).length) : (rg a b)[i] = a + i := by simp [rg]
section
variable {α γ σ ρ : Type}
theorem forN_at {f : α → σ → M σ} (I : Nat → σ → Prop) : ∀ {xs : List α} {s : σ} (j : Nat), I j s → (∀ k (hk : k < xs.length) s, I (j + k) s → ∃ s', f xs[k] s = .ok s' ∧ I (j + k + 1) s') → ∃ s', forN f xs s = .ok s' ∧ I (j + xs.length) s'
  | [], s, j, h, _ => ⟨s, rfl, h⟩
  | x :: xs, s, j, h, hs => by
    obtain ⟨s1, e1, h1⟩ := hs 0 (by simp) s h
    obtain ⟨s2, e2, h2⟩ := forN_at I (xs := xs) (s := s1) (j + 1) h1 (fun k hk s hI => by
      have := hs (k + 1) (by simpa using hk) s (by rw [show j + (k + 1) = j + 1 + k by omega]; exact hI)
      rw [show j + (k + 1) + 1 = j + 1 + k + 1 by omega] at this
      simpa using this)
    refine ⟨s2, ?_, by rw [List.length_cons, show j + (xs.length + 1) = j + 1 + xs.length by omega]; exact h2⟩
    simp only [List.getElem_cons_zero] at e1
    rw [forN, e1]
    exact e2
/-- a loop by the number of things gone through -/
theorem forN_ix {f : α → σ → M σ} (I : Nat → σ → Prop) {xs : List α} {s : σ} (h : I 0 s) (hs : ∀ k (hk : k < xs.length) s, I k s → ∃ s', f xs[k] s = .ok s' ∧ I (k + 1) s') : ∃ s', forN f xs s = .ok s' ∧ I xs.length s' := by
  have := forN_at (f := f) I (xs := xs) (s := s) 0 h (fun k hk s hI => by rw [Nat.zero_add] at hI ⊢; exact hs k hk s hI)
  simpa using this
/-- a loop that is a fold -/
theorem forN_fold {f : α → σ → M σ} {g : σ → α → σ} (I : σ → Prop) : ∀ {xs : List α} {s : σ}, I s → (∀ x ∈ xs, ∀ s, I s → f x s = .ok (g s x) ∧ I (g s x)) → forN f xs s = .ok (xs.foldl g s)
  | [], s, _, _ => rfl
  | x :: xs, s, h, hs => by
    obtain ⟨e, h1⟩ := hs x (by simp) s h
    rw [forN, e]
    exact forN_fold I h1 fun y hy => hs y (List.mem_cons_of_mem _ hy)
theorem mapM_of {g : α → M γ} {h : α → γ} {xs : List α} (hl : xs.length ≤ 100000) (hg : ∀ x ∈ xs, g x = .ok (h x)) : mapM g xs = .ok (xs.map h) := by
  unfold mapM; rw [if_pos hl]
  clear hl
  induction xs with
  | nil => rfl
  | cons x xs ih => simp [mapMr, hg x (by simp), ih fun y hy => hg y (List.mem_cons_of_mem _ hy)]
/-- what is told of each of a comprehension's things -/
theorem mapM_all {g : α → M γ} {xs : List α} {P : Nat → γ → Prop} (hl : xs.length ≤ 100000) (hg : ∀ k (hk : k < xs.length), ∃ c, g xs[k] = .ok c ∧ P k c) : ∃ ys, mapM g xs = .ok ys ∧ ys.length = xs.length ∧ ∀ k (hk : k < ys.length), P k ys[k] := by
  unfold mapM; rw [if_pos hl]
  clear hl
  induction xs generalizing P with
  | nil => exact ⟨[], rfl, rfl, fun k hk => absurd hk (by simp)⟩
  | cons x xs ih =>
    obtain ⟨c, e, hc⟩ := hg 0 (by simp)
    obtain ⟨ys, e2, h2, h3⟩ := ih (P := fun k => P (k + 1)) fun k hk => hg (k + 1) (by simpa using hk)
    refine ⟨c :: ys, ?_, by simp [h2], fun k hk => ?_⟩
    · simp only [List.getElem_cons_zero] at e
      simp [mapMr, e, e2]
    · cases k with
      | zero => exact hc
      | succ k => exact h3 k (by simpa using hk)
theorem fltM_of {g : α → M (Option γ)} {h : α → Option γ} {xs : List α} (hl : xs.length ≤ 100000) (hg : ∀ x ∈ xs, g x = .ok (h x)) : fltM g xs = .ok (xs.filterMap h) := by
  unfold fltM; rw [if_pos hl]
  clear hl
  induction xs with
  | nil => rfl
  | cons x xs ih =>
    simp only [fltMr, hg x (by simp), ih fun y hy => hg y (List.mem_cons_of_mem _ hy)]
    cases h1 : h x <;> simp [h1]
theorem fltM_if {g : α → M (Option α)} {p : α → Bool} {xs : List α} (hl : xs.length ≤ 100000) (hg : ∀ x ∈ xs, g x = .ok (if p x then some x else none)) : fltM g xs = .ok (xs.filter p) := by
  rw [fltM_of hl hg]
  congr 1
  clear hl hg
  induction xs with
  | nil => rfl
  | cons x xs ih => cases hp : p x <;> simp [hp, ih]
/-- a comprehension with a state: I of the state, P of each thing -/
theorem mapS_all {g : α → σ → M (γ × σ)} {xs : List α} {s : σ} {I : σ → Prop} {P : Nat → γ → Prop} (hl : xs.length ≤ 100000) (h : I s) (hg : ∀ k (hk : k < xs.length) s, I s → ∃ c s', g xs[k] s = .ok (c, s') ∧ I s' ∧ P k c) : ∃ ys s', mapS g xs s = .ok (ys, s') ∧ I s' ∧ ys.length = xs.length ∧ ∀ k (hk : k < ys.length), P k ys[k] := by
  unfold mapS; rw [if_pos hl]
  clear hl
  induction xs generalizing s P with
  | nil => exact ⟨[], s, rfl, h, rfl, fun k hk => absurd hk (by simp)⟩
  | cons x xs ih =>
    obtain ⟨c, s1, e, h1, hc⟩ := hg 0 (by simp) s h
    obtain ⟨ys, s2, e2, h2, h3, h4⟩ := ih (P := fun k => P (k + 1)) h1 fun k hk s hI => hg (k + 1) (by simpa using hk) s hI
    refine ⟨c :: ys, s2, ?_, h2, by simp [h3], fun k hk => ?_⟩
    · simp only [List.getElem_cons_zero] at e
      simp [mapSr, e, e2]
    · cases k with
      | zero => exact hc
      | succ k => exact h4 k (by simpa using hk)
/-- .. and with a test: J of what has been told so far -/
theorem fltS_ix {g : α → σ → M (Option γ × σ)} {xs : List α} {s : σ} (J : Nat → List γ → σ → Prop) (hl : xs.length ≤ 100000) (h : J 0 [] s)
    (hg : ∀ k (hk : k < xs.length) ys s, J k ys s → ∃ o s', g xs[k] s = .ok (o, s') ∧ J (k + 1) (ys ++ o.toList) s') : ∃ ys s', fltS g xs s = .ok (ys, s') ∧ J xs.length ys s' := by
  unfold fltS; rw [if_pos hl]
  clear hl
  have : ∀ (xs : List α) (s : σ) (j : Nat) (zs : List γ), J j zs s → (∀ k (hk : k < xs.length) ys s, J (j + k) ys s → ∃ o s', g xs[k] s = .ok (o, s') ∧ J (j + k + 1) (ys ++ o.toList) s') → ∃ ys s', fltSr g xs s = .ok (ys, s') ∧ J (j + xs.length) (zs ++ ys) s' := by
    intro xs
    induction xs with
    | nil => intro s j zs h _; exact ⟨[], s, rfl, by simpa using h⟩
    | cons x xs ih =>
      intro s j zs h hs
      obtain ⟨o, s1, e1, h1⟩ := hs 0 (by simp) zs s h
      obtain ⟨ys, s2, e2, h2⟩ := ih s1 (j + 1) (zs ++ o.toList) h1 (fun k hk ys s hI => by
        have := hs (k + 1) (by simpa using hk) ys s (by rw [show j + (k + 1) = j + 1 + k by omega]; exact hI)
        rw [show j + (k + 1) + 1 = j + 1 + k + 1 by omega] at this
        simpa using this)
      simp only [List.getElem_cons_zero] at e1
      refine ⟨o.toList ++ ys, s2, by simp [fltSr, e1, e2], by rw [List.length_cons, show j + (xs.length + 1) = j + 1 + xs.length by omega, ← List.append_assoc]; exact h2⟩
  obtain ⟨ys, s', e, h1⟩ := this xs s 0 [] h (fun k hk ys s hI => by rw [Nat.zero_add] at hI ⊢; exact hg k hk ys s hI)
  exact ⟨ys, s', e, by simpa using h1⟩
theorem ix_of {xs : List α} {j : Int} (h0 : 0 ≤ j) (h : j.toNat < xs.length) : ix xs j = .ok xs[j.toNat] := by
  have h' : (j : Int) < (xs.length : Int) := by omega
  simp [ix, L2.atI, L2.ixN, h0, h', h]
theorem setIx_of {xs : List α} {j : Int} {a : α} (h0 : 0 ≤ j) (h : j.toNat < xs.length) : setIx xs j a = .ok (xs.set j.toNat a) := by
  have h' : (j : Int) < (xs.length : Int) := by omega
  simp [setIx, L2.ixN, h0, h']
theorem ix_mem {xs : List α} {j : Int} (h0 : 0 ≤ j) (h : j < xs.length) : ∃ a ∈ xs, ix xs j = .ok a := ⟨_, List.getElem_mem (by omega), ix_of h0 (by omega)⟩
theorem appL_of {xs : List α} {a : α} (h : xs.length < 100000) : appL xs a = .ok (xs ++ [a]) := if_pos h
theorem catL_of {xs ys : List α} (h : xs.length + ys.length ≤ 100000) : catL xs ys = .ok (xs ++ ys) := if_pos h
theorem repL1 {a : α} {n : Int} (h0 : 0 ≤ n) (h : n ≤ 100000) : repL [a] n = .ok (List.replicate n.toNat a) := by
  unfold repL
  rw [if_pos ⟨by omega, by omega, by simp; omega⟩]
  congr 1
  generalize n.toNat = k
  induction k with
  | zero => rfl
  | succ k ih => simp [List.replicate_succ, ih]
end
end Fl
namespace Fl
open PySem
theorem whM_gcd {ρ : Type} {c : (Int × Int) → M Bool} {f : (Int × Int) → M (Ctl ρ (Int × Int))} (hc : ∀ x y : Nat, c ((x : Int), (y : Int)) = .ok (decide (y ≠ 0))) (hf : ∀ x y : Nat, y ≠ 0 → f ((x : Int), (y : Int)) = .ok (.nx ((y : Int), ((x % y : Nat) : Int)))) (x y : Nat) :
    whM c f ((x : Int), (y : Int)) = .ok (.nx ((Nat.gcd x y : Nat), 0)) := by
  have key : ∀ (n x y : Nat), y < n → whF c f n ((x : Int), (y : Int)) = .ok (.nx ((Nat.gcd x y : Nat), 0)) := by
    intro n
    induction n with
    | zero => intro x y h; omega
    | succ n ih =>
      intro x y h
      rw [whF, hc]
      by_cases hy : y = 0
      · subst hy; simp
      · simp only [M.ok_bind, hy, ne_eq, not_false_eq_true, decide_true, if_true, hf x y hy]
        rw [ih y (x % y) (by have := Nat.mod_lt x (Nat.pos_of_ne_zero hy); omega), Nat.gcd_comm y, ← Nat.gcd_rec, Nat.gcd_comm]
  have h := key (y + 1) x y (by omega)
  rw [whM_eq (n := y + 1) (by rw [h]; simp), h]
theorem modI_nat {x y : Nat} (h : y ≠ 0) : modI (x : Int) (y : Int) = .ok ((x % y : Nat) : Int) := by rw [modI_of (by omega)]; simp
@[simp] theorem divisor_eq (a b : Int) : f_divisor a b = .ok (Int.gcd a b : Int) := by
  unfold f_divisor
  rw [whM_gcd (fun x y => by simp [Nat.pos_iff_ne_zero]) (fun x y hy => by simp [modI_nat hy])]
  simp [Int.gcd]
theorem toQ_of {q : Rat} : toQ ⟨q.num, (q.den : Int)⟩ = .ok q := by
  have h : Rat.divInt q.num (q.den : Int) = q := Rat.num_divInt_den q
  simp only [toQ]
  rw [h]; simp
theorem divInt_num {a b : Int} (hb : 0 < b) : (Rat.divInt a b).num = a / (Int.gcd a b : Nat) := by
  rw [Rat.num_divInt, Int.sign_eq_one_of_pos hb, Int.one_mul, Int.gcd_comm b a]
theorem divInt_den {a b : Int} (hb : 0 < b) : ((Rat.divInt a b).den : Int) = b / (Int.gcd a b : Nat) := by
  rw [Rat.den_divInt, if_neg (by omega), Int.gcd_comm b a, Int.natCast_ediv]
  have : ((b.natAbs : Nat) : Int) = b := by omega
  rw [this]
theorem toQ_div {a b : Int} (hb : 0 < b) : toQ ⟨a / (Int.gcd a b : Nat), b / (Int.gcd a b : Nat)⟩ = .ok (Rat.divInt a b) := by
  rw [← divInt_num hb, ← divInt_den hb, toQ_of]
theorem gcd_lim {a b : Int} (hb : b ≠ 0) (hs : Lm b.natAbs) : 0 < ((Int.gcd a b : Nat) : Int) ∧ Lm ((Int.gcd a b : Nat) : Int).natAbs := by
  have g0 : 0 < Int.gcd a b := Int.gcd_pos_of_ne_zero_right _ hb
  have h1 : Int.gcd a b ≤ b.natAbs := Nat.gcd_le_right _ (by omega)
  exact ⟨by omega, by rw [Int.natAbs_natCast]; exact hs.le h1⟩
theorem low_eq {a b : Int} (hb : 0 < b) (hs : Lm b.natAbs) : f_low a b = .ok (Rat.divInt a b) := by
  obtain ⟨g0, g1⟩ := gcd_lim (a := a) (b := b) (by omega) hs
  have hn : ((b.natAbs : Nat) : Int) = b := by omega
  have w := whM_gcd (ρ := Rat) (c := fun (s3 : (Int × Int)) => M.ok ((decide ((0 : Int) < s3.2)) : Bool)) (f := fun (s3 : (Int × Int)) => (modI s3.1 s3.2).bind fun (n4 : Int) => M.ok (Ctl.nx (s3.2, n4))) (fun x y => by simp [Nat.pos_iff_ne_zero]) (fun x y hy => by simp [modI_nat hy]) a.natAbs b.natAbs
  rw [hn] at w
  unfold f_low
  rw [w]
  show (M.ok _).bind _ = _
  simp only [M.ok_bind, Ctl.go_nx]
  have e : ((a.natAbs.gcd b.natAbs : Nat) : Int) = (Int.gcd a b : Nat) := rfl
  simp only [e, divI_of g0 g1, M.ok_bind, toQ_div hb]
@[simp] theorem isi_ii (a : Int) : isiX "int" (Ty.enc a) = true := rfl
@[simp] theorem isi_ib (a : Int) : isiX "bool" (Ty.enc a) = false := rfl
@[simp] theorem isi_qt (q : Rat) : isiX "tuple" (Ty.enc q) = true := rfl
@[simp] theorem is_whole_eq (a : Int) : f_is_whole a = .ok true := rfl
@[simp] theorem law_whole_eq (a : Int) : f_law_whole a = .ok true := rfl
/-- both parts below 2 ^ n -/
def Sz (q : Rat) (n : Nat) : Prop := q.num.natAbs < 2 ^ n ∧ q.den < 2 ^ n
theorem Sz.mono {q : Rat} {n m : Nat} (h : Sz q n) (hm : n ≤ m) : Sz q m := ⟨Nat.lt_of_lt_of_le h.1 (Nat.pow_le_pow_right (by decide) hm), Nat.lt_of_lt_of_le h.2 (Nat.pow_le_pow_right (by decide) hm)⟩
theorem mul_lt2 {a b n m : Nat} (h : a < 2 ^ n) (h2 : b < 2 ^ m) : a * b < 2 ^ (n + m) := by rw [Nat.pow_add]; exact Nat.mul_lt_mul'' h h2
theorem sz_divInt {a b : Int} (hb : b ≠ 0) {n : Nat} (h1 : a.natAbs < 2 ^ n) (h2 : b.natAbs < 2 ^ n) : Sz (Rat.divInt a b) n := by
  constructor
  · rw [Rat.num_divInt]
    refine Nat.lt_of_le_of_lt (Int.natAbs_ediv_le_natAbs _ _) ?_
    rw [Int.natAbs_mul]
    have : b.sign.natAbs = 1 := by rw [Int.natAbs_sign, if_neg hb]
    rw [this]; omega
  · rw [Rat.den_divInt, if_neg hb]
    exact Nat.lt_of_le_of_lt (Nat.div_le_self _ _) h2
theorem den0 (q : Rat) : ((q.den : Nat) : Int) ≠ 0 := by have := q.den_nz; omega
theorem den_pos (q : Rat) : 0 < ((q.den : Nat) : Int) := by have := q.den_nz; omega
theorem add_eq (p q : Rat) : p + q = Rat.divInt (p.num * q.den + q.num * p.den) (p.den * q.den) := by
  conv => lhs; rw [← Rat.num_divInt_den p, ← Rat.num_divInt_den q]
  exact Rat.divInt_add_divInt _ _ (den0 p) (den0 q)
theorem sub_eq (p q : Rat) : p - q = Rat.divInt (p.num * q.den - q.num * p.den) (p.den * q.den) := by
  conv => lhs; rw [← Rat.num_divInt_den p, ← Rat.num_divInt_den q]
  exact Rat.divInt_sub_divInt _ _ (den0 p) (den0 q)
theorem sum_lt {a b : Int} {n : Nat} (h1 : a.natAbs < 2 ^ n) (h2 : b.natAbs < 2 ^ n) : (a + b).natAbs < 2 ^ (n + 1) := by rw [Nat.pow_succ]; omega
theorem dif_lt {a b : Int} {n : Nat} (h1 : a.natAbs < 2 ^ n) (h2 : b.natAbs < 2 ^ n) : (a - b).natAbs < 2 ^ (n + 1) := by rw [Nat.pow_succ]; omega
theorem Sz.add {p q : Rat} {n m : Nat} (hp : Sz p n) (hq : Sz q m) : Sz (p + q) (n + m + 1) := by
  rw [add_eq]
  refine sz_divInt (Int.mul_ne_zero (den0 p) (den0 q)) (sum_lt ?_ ?_) ?_
  · rw [Int.natAbs_mul]; exact mul_lt2 hp.1 hq.2
  · rw [Int.natAbs_mul, Nat.add_comm]; exact mul_lt2 hq.1 hp.2
  · rw [Int.natAbs_mul]; exact Nat.lt_of_lt_of_le (mul_lt2 hp.2 hq.2) (Nat.pow_le_pow_right (by decide) (by omega))
theorem Sz.sub {p q : Rat} {n m : Nat} (hp : Sz p n) (hq : Sz q m) : Sz (p - q) (n + m + 1) := by
  rw [sub_eq]
  refine sz_divInt (Int.mul_ne_zero (den0 p) (den0 q)) (dif_lt ?_ ?_) ?_
  · rw [Int.natAbs_mul]; exact mul_lt2 hp.1 hq.2
  · rw [Int.natAbs_mul, Nat.add_comm]; exact mul_lt2 hq.1 hp.2
  · rw [Int.natAbs_mul]; exact Nat.lt_of_lt_of_le (mul_lt2 hp.2 hq.2) (Nat.pow_le_pow_right (by decide) (by omega))
theorem Sz.neg {q : Rat} {n : Nat} (h : Sz q n) : Sz (-q) n := ⟨by have := h.1; simpa using this, by have := h.2; simpa using this⟩
theorem sz_int {a : Int} {n : Nat} (h : a.natAbs < 2 ^ n) (hn : 0 < n) : Sz (a : Rat) n := ⟨by simpa using h, by
  have : 1 < 2 ^ n := Nat.one_lt_two_pow (by omega)
  simpa using this⟩
theorem sz0 {n : Nat} (hn : 0 < n) : Sz 0 n := sz_int (a := 0) (by simp; exact Nat.pow_pos (by decide)) hn
section
variable {p q : Rat} {n m : Nat}
theorem gcd_q (q : Rat) : Int.gcd q.num (q.den : Int) = 1 := by
  have h := q.reduced
  unfold Nat.Coprime at h
  simpa [Int.gcd] using h
@[simp] theorem is_fraction_eq (q : Rat) : f_is_fraction q = .ok true := by
  have h := gcd_q q
  have h0 := den_pos q
  have h1 : 0 < q.den := by omega
  simp [f_is_fraction, h, h0, h1]
end
theorem divInt_nonneg' {a b : Int} (ha : 0 ≤ a) (hb : 0 < b) : 0 ≤ Rat.divInt a b := Rat.divInt_nonneg ha (by omega)
theorem divInt_pos' {a b : Int} (ha : 0 < a) (hb : 0 < b) : 0 < Rat.divInt a b := by
  have h0 := divInt_nonneg' (a := a) (b := b) (by omega) hb
  have h1 : Rat.divInt a b ≠ 0 := fun e => by
    have : a * 1 = 0 * b := (Rat.divInt_eq_divInt_iff (show b ≠ 0 by omega) (show (1 : Int) ≠ 0 by decide)).mp (by rw [e]; rfl)
    omega
  grind
theorem gt0_num {q : Rat} (h : 0 ≤ q) : (0 < q.num) ↔ q ≠ 0 := by
  have h1 : 0 ≤ q.num := Rat.num_nonneg.mpr h
  have h2 : q.num ≠ 0 ↔ q ≠ 0 := not_congr Rat.num_eq_zero
  constructor
  · intro h3; exact h2.mp (by omega)
  · intro h3; have := h2.mpr h3; omega
theorem num_pos {q : Rat} (h : 0 < q) : 0 < q.num := (gt0_num (by grind)).mpr (by grind)
end Fl
namespace Fl
open PySem
def vec {α : Type} (m : Int) (f : Int → α) : List α := (rg 0 m).map f
def upd {α : Type} (f : Int → α) (j : Int) (a : α) : Int → α := fun k => if k = j then a else f k
section
variable {α γ δ : Type} {m : Int} {f g : Int → α}
@[simp] theorem len_vec : (vec m f).length = m.toNat := by simp [vec]
theorem get_vec {k : Nat} (h : k < (vec m f).length) : (vec m f)[k] = f k := by simp [vec]
theorem vec_congr (h : ∀ j, 0 ≤ j → j < m → f j = g j) : vec m f = vec m g := List.map_congr_left fun j hj => by rw [mem_rg] at hj; exact h j hj.1 hj.2
theorem ix_vec {j : Int} (h0 : 0 ≤ j) (h : j < m) : ix (vec m f) j = .ok (f j) := by
  rw [ix_of h0 (by simp; omega), get_vec, Int.toNat_of_nonneg h0]
theorem set_vec {j : Int} {a : α} (h0 : 0 ≤ j) : (vec m f).set j.toNat a = vec m (upd f j a) := by
  apply List.ext_getElem
  · simp
  · intro k h1 h2
    rw [List.getElem_set, get_vec, get_vec]
    unfold upd
    by_cases h : j.toNat = k
    · rw [if_pos h, if_pos (by omega)]
    · rw [if_neg h, if_neg (by omega)]
theorem setIx_vec {j : Int} {a : α} (h0 : 0 ≤ j) (h : j < m) : setIx (vec m f) j a = .ok (vec m (upd f j a)) := by
  rw [setIx_of h0 (by simp; omega), set_vec h0]
theorem zp_vec {f : Int → α} {g : Int → γ} : zp (vec m f) (vec m g) = vec m fun j => ⟨f j, g j⟩ := by
  unfold zp vec
  rw [List.zipWith_map, List.zipWith_self]
theorem enm_vec : enm (vec m f) = vec m fun j => (⟨j, f j⟩ : T2 Int α) := by
  apply List.ext_getElem
  · simp [enm]
  · intro k h1 h2
    rw [get_vec]
    simp [enm, get_vec]
theorem mapM_vec {b : α → M γ} {h : Int → γ} (hm : m ≤ 100000) (hb : ∀ j, 0 ≤ j → j < m → b (f j) = .ok (h j)) : mapM b (vec m f) = .ok (vec m h) := by
  obtain ⟨ys, e, h1, h2⟩ := mapM_all (g := b) (xs := vec m f) (P := fun k c => c = h k) (by simp; omega) (fun k hk => ⟨h k, by rw [get_vec]; exact hb k (by omega) (by simp at hk; omega), rfl⟩)
  rw [e]
  congr 1
  apply List.ext_getElem
  · simp [h1]
  · intro k h3 h4; rw [get_vec]; exact h2 k h3
theorem vec_of (xs : List α) [Inhabited α] : xs = vec xs.length fun j => xs.getD j.toNat default := by
  apply List.ext_getElem
  · simp
  · intro k h1 h2; rw [get_vec]; simp [List.getD, h1]
theorem rep_vec {a : α} (h0 : 0 ≤ m) (h : m ≤ 100000) : repL [a] m = .ok (vec m fun _ => a) := by
  rw [repL1 h0 h]
  congr 1
  apply List.ext_getElem
  · simp
  · intro k h1 h2; rw [get_vec]; simp
end
abbrev Side := List (T2 Int Rat)
abbrev Deed := T2 Side Side
abbrev Net := T2 Int (List Deed)
structure SideOk (m : Int) (s : Side) : Prop where
  so : (s.map T2.a).Pairwise (· < ·)
  rg : ∀ p ∈ s, 0 ≤ p.a ∧ p.a < m
  am : ∀ p ∈ s, 0 < p.b ∧ Sz p.b 48
  ln : s.length ≤ 1000
structure DeedOk (m : Int) (d : Deed) : Prop where
  l : SideOk m d.a
  r : SideOk m d.b
structure NetOk (n : Net) : Prop where
  m0 : 0 < n.a
  m1 : n.a ≤ 100
  ln : n.b.length ≤ 100
  ok : ∀ d ∈ n.b, DeedOk n.a d
theorem SideOk.nd {m : Int} {s : Side} (h : SideOk m s) : (s.map T2.a).Nodup := h.so.imp fun h => by omega
theorem SideOk.nil {m : Int} : SideOk m [] := ⟨List.Pairwise.nil, by simp, by simp, by simp⟩
theorem SideOk.one {m : Int} {p : T2 Int Rat} (h : 0 ≤ p.a ∧ p.a < m) (ha : 0 < p.b ∧ Sz p.b 48) : SideOk m [p] := ⟨by simp, by simpa using h, by simpa using ha, by simp⟩
def amt : Side → Int → Rat
  | [], _ => 0
  | p :: s, j => (if p.a = j then p.b else 0) + amt s j
def chg (d : Deed) (j : Int) : Rat := amt d.b j - amt d.a j
theorem amt_out : ∀ {s : Side} {j : Int}, j ∉ s.map T2.a → amt s j = 0
  | [], j, _ => rfl
  | p :: s, j, h => by
    simp only [List.map_cons, List.mem_cons, not_or] at h
    rw [amt, if_neg (Ne.symm h.1), amt_out h.2]; grind
theorem amt_in : ∀ {s : Side} {p : T2 Int Rat}, (s.map T2.a).Nodup → p ∈ s → amt s p.a = p.b
  | q :: s, p, nd, h => by
    simp only [List.map_cons, List.nodup_cons] at nd
    rcases List.mem_cons.mp h with rfl | h
    · rw [amt, if_pos rfl, amt_out nd.1]; grind
    · have : q.a ≠ p.a := fun e => nd.1 (by rw [e]; exact List.mem_map_of_mem h)
      rw [amt, if_neg this, amt_in nd.2 h]; grind
theorem amt_cases {s : Side} (nd : (s.map T2.a).Nodup) (j : Int) : (∃ p ∈ s, p.a = j ∧ amt s j = p.b) ∨ (j ∉ s.map T2.a ∧ amt s j = 0) := by
  by_cases h : j ∈ s.map T2.a
  · obtain ⟨p, hp, rfl⟩ := List.mem_map.mp h
    exact .inl ⟨p, hp, rfl, amt_in nd hp⟩
  · exact .inr ⟨h, amt_out h⟩
theorem SideOk.amt_sz {m : Int} {s : Side} (h : SideOk m s) (j : Int) : Sz (amt s j) 48 ∧ 0 ≤ amt s j := by
  rcases amt_cases h.nd j with ⟨p, hp, rfl, e⟩ | ⟨_, e⟩
  · rw [e]; exact ⟨(h.am p hp).2, by have := (h.am p hp).1; grind⟩
  · rw [e]; exact ⟨sz0 (by decide), by decide⟩
theorem SideOk.pos_iff {m : Int} {s : Side} (h : SideOk m s) {j : Int} : 0 < amt s j ↔ j ∈ s.map T2.a := by
  rcases amt_cases h.nd j with ⟨p, hp, rfl, e⟩ | ⟨h1, e⟩
  · rw [e]; exact ⟨fun _ => List.mem_map_of_mem hp, fun _ => (h.am p hp).1⟩
  · rw [e]; exact ⟨fun h => absurd h (by decide), fun h => absurd h h1⟩
structure DctOk (m : Int) (d : Dct Rat) : Prop where
  nd : (d.l.map Prod.fst).Nodup
  rg : ∀ p ∈ d.l, 0 ≤ p.1 ∧ p.1 < m
  am : ∀ p ∈ d.l, 0 < p.2 ∧ Sz p.2 48
theorem dputL_keys {l : List (Int × Rat)} {k : Int} {a : Rat} : (dputL l k a).map Prod.fst = if k ∈ l.map Prod.fst then l.map Prod.fst else l.map Prod.fst ++ [k] := by
  unfold dputL
  by_cases h : k ∈ l.map Prod.fst
  · have h2 : (l.any fun p => decide (p.1 = k)) = true := by
      obtain ⟨p, hp, rfl⟩ := List.mem_map.mp h
      exact List.any_eq_true.mpr ⟨p, hp, by simp⟩
    rw [if_pos h2, if_pos h, List.map_map]; rfl
  · have h2 : ¬ (l.any fun p => decide (p.1 = k)) = true := fun e => by
      obtain ⟨p, hp, e⟩ := List.any_eq_true.mp e
      exact h (List.mem_map.mpr ⟨p, hp, by simpa using e⟩)
    rw [if_neg h2, if_neg h]; simp
theorem mem_dputL {l : List (Int × Rat)} {k : Int} {a : Rat} {p : Int × Rat} (h : p ∈ dputL l k a) : p ∈ l ∨ p = (k, a) := by
  unfold dputL at h
  split at h
  · obtain ⟨q, hq, rfl⟩ := List.mem_map.mp h
    by_cases e : q.1 = k
    · right; simp [e]
    · left; simpa [e] using hq
  · simpa using h
theorem DctOk.put {m : Int} {d : Dct Rat} {k : Int} {a : Rat} (h : DctOk m d) (hk : 0 ≤ k ∧ k < m) (ha : 0 < a ∧ Sz a 48) : DctOk m ⟨dputL d.l k a⟩ := by
  refine ⟨?_, fun p hp => ?_, fun p hp => ?_⟩
  · show ((dputL d.l k a).map Prod.fst).Nodup
    rw [dputL_keys]
    split
    · exact h.nd
    · rename_i hn
      exact List.nodup_append.mpr ⟨h.nd, by simp, fun x hx y hy => by simp at hy; subst hy; exact fun e => hn (e ▸ hx)⟩
  · rcases mem_dputL hp with q | rfl
    · exact h.rg p q
    · exact hk
  · rcases mem_dputL hp with q | rfl
    · exact h.am p q
    · exact ha
end Fl
set_option synthInstance.maxHeartbeats 400000
set_option synthInstance.maxSize 4000
namespace Fl
open PySem PySem.Spec PyProof.Rows L2
open Ty (enc)
/-- wet_in: (List Rat) -/
noncomputable def b_wet_in : Stm :=
  sRet (eLc 3 (iE (aC (eV 0) (aN))) (gT 2 (gsC (gN 1) (gsC (gN 2) (gsN)))) (bOf (eBin fGt (eIxV 2 (eC (.int 0))) (eC (.int 0)))) (eV 1) [1, 2])
noncomputable def m_wet_in : Fn := fnM 1 3 false b_wet_in
noncomputable def f_wet_in (stand1 : (List Rat)) : M (List Int) :=
  (fltM (fun (x3 : (T2 Int Rat)) => ((if (decide ((0 : Int) < x3.b.num)) then M.ok (some x3.a) else M.ok none) : M (Option Int))) (enm stand1)).bind fun (row5 : (List Int)) => M.ok row5
theorem s_wet_in (stand1 : (List Rat)) : SFa m_wet_in [enc stand1] (f_wet_in stand1) .cl := by
  unfold f_wet_in m_wet_in b_wet_in
  exact sfa [Is (enc stand1) .any, Tp, Tp] (ks_ret (ke_fltM (α := (T2 Int Rat)) (γ := Int) (ki_E (ka_cons (ke_va 0 rfl (ka_nil (⟨_, _, rfl, ⟨[Is (enc (stand1 : (List Rat))) .any, Tp, Tp], .cl, _, _, _, rfl, rfl, rfl, wk_refl, (vs_c rfl (vs_c rfl vs_nil)), (fun x3 => kt_2 (kt_n 1 (kt_n 2 (kb_of (ke_bin (ke_ixV 2 (at_ rfl trivial) (ke_c (a := ((0 : Int) : Int)) rfl (⟨_, rfl, at_ rfl (fxFp iv_qa (ke_c (a := ((0 : Int) : Int)) rfl (f2p o_gt (⟨_, rfl, twM (⟨rfl, wk_refl⟩) (ke_vF 1 rfl (⟨_, wk_i, rfl, wk_refl⟩))⟩))))⟩)))))))), fun row5 => rtF (ν := .cl) (r := (row5 : (List Int))) (fun _ h => h)⟩⟩)))))))
/-- in_turn: (T2 Int (List (T2 (List (T2 Int Rat)) (List (T2 Int Rat))))), (List Rat), (List Int) -/
noncomputable def b_in_turn : Stm :=
  sSeq (sAsg (eCall m_wet_in (aC (eV 1) (aN))) (gN 3))
  (sSeq (sAsg (eLst (aN)) (gN 4))
  (sSeq (sAsg (eC (.bl true)) (gN 5))
  (sSeq (sWhile (bOf (eV 5)) (sSeq (sAsg (eC (.bl false)) (gN 5))
  (sFor (iL (eV 2)) (gN 6)
  (sIf (bAnd (bOf (eBinV fNotIn (eV 6) 4)) (bOf (eG1 gAll (eLc 8 (iL (eCall m_takes_from (aC (eV 0) (aC (eV 6) (aN))))) (gN 7) (bYes) (eBinV fIn (eV 7) 3) [7])))) (sSeq (sApp 4 (eV 6))
  (sSeq (sAsg (eBin addD (eV 3) (eLc 8 (iL (eCall m_gives_to (aC (eV 0) (aC (eV 6) (aN))))) (gN 7) (bOf (eBinV fNotIn (eV 7) 3)) (eV 7) [7])) (gN 3))
  (sAsg (eC (.bl true)) (gN 5)))) (sPass)))))
  (sRet (eTup (aC (eM 4) (aC (eM 3) (aN))))))))
noncomputable def m_in_turn : Fn := fnM 3 8 false b_in_turn
noncomputable def f_in_turn (net1 : (T2 Int (List (T2 (List (T2 Int Rat)) (List (T2 Int Rat)))))) (stand2 : (List Rat)) (deeds3 : (List Int)) : M (T2 (List Int) (List Int)) :=
  (f_wet_in stand2).call.bind fun (v4 : (List Int)) => (whM (ρ := (T2 (List Int) (List Int))) (fun (s5 : ((List Int) × (List Int) × Bool)) => M.ok (s5.2.2 : Bool)) (fun (s5 : ((List Int) × (List Int) × Bool)) => (forN (fun (x7 : Int) (s6 : ((List Int) × (List Int) × Bool)) => (if (!(decide (x7 ∈ s6.2.1))) then (f_takes_from net1 x7).call.bind fun (v8 : (List Int)) => (mapM (fun (x10 : Int) => (M.ok (decide (x10 ∈ s6.1)) : M Bool)) v8).bind fun (row12 : (List Bool)) => M.ok (row12.all id) else M.ok false).bind fun (t13 : Bool) => (if t13 then ((appL s6.2.1 x7).bind fun (found15 : (List Int)) => (f_gives_to net1 x7).call.bind fun (v16 : (List Int)) => (fltM (fun (x18 : Int) => ((if (!(decide (x18 ∈ s6.1))) then M.ok (some x18) else M.ok none) : M (Option Int))) v16).bind fun (row20 : (List Int)) => (catL s6.1 row20).bind fun (xs21 : (List Int)) => M.ok (xs21, found15, true) : M ((List Int) × (List Int) × Bool)) else M.ok (s6.1, s6.2.1, s6.2.2)).bind fun (s14 : ((List Int) × (List Int) × Bool)) => M.ok (s14.1, s14.2.1, s14.2.2)) deeds3 (s5.1, s5.2.1, false)).bind fun (s22 : ((List Int) × (List Int) × Bool)) => M.ok (Ctl.nx (s22.1, s22.2.1, s22.2.2))) (v4, ([] : (List Int)), true)).bind fun c => c.go fun (s23 : ((List Int) × (List Int) × Bool)) => M.ok ((⟨s23.2.1, s23.1⟩ : (T2 (List Int) (List Int))))
theorem s_in_turn (net1 : (T2 Int (List (T2 (List (T2 Int Rat)) (List (T2 Int Rat)))))) (stand2 : (List Rat)) (deeds3 : (List Int)) : SFa m_in_turn [enc net1, enc stand2, enc deeds3] (f_in_turn net1 stand2 deeds3) .cl := by
  unfold f_in_turn m_in_turn b_in_turn
  exact sfa [Is (enc net1) .any, Is (enc stand2) .any, Is (enc deeds3) .any, Tp, Tp, Tp, Tp, Tp] (ks_seq (ks_asg (ke_call (ka_cons (ke_va 1 rfl (ka_nil (fc (s_wet_in stand2) fun v4 => kt_n 3 (ks_seq (ks_asg (ke_lst (ka_nil (fl (a := ([] : (List Int))) .cl (kt_n 4 (ks_seq (ks_asg (ke_c (a := (true : Bool)) rfl (kt_n 5 (ks_seq (ks_while (σ := ((List Int) × (List Int) × Bool)) (fun (s5 : ((List Int) × (List Int) × Bool)) => [Is (enc (net1 : (T2 Int (List (T2 (List (T2 Int Rat)) (List (T2 Int Rat))))))) .any, Is (enc (stand2 : (List Rat))) .any, Is (enc (deeds3 : (List Int))) .any, Is (enc (s5.1 : (List Int))) .cl, Is (enc (s5.2.1 : (List Int))) .cl, Is (enc (s5.2.2 : Bool)) .any, Tp, Tp]) (wk_cons wk_i (wk_cons wk_i (wk_cons wk_i (wk_cons wk_i (wk_cons wk_i (wk_cons wk_a (wk_cons wk_t (wk_cons wk_t (wk_nil))))))))) (fun s5 => kb_of (ke_vF 5 rfl (⟨_, rfl, ⟨rfl, wk_refl⟩⟩))) (fun s5 _ => ks_seq (ks_asg (ke_c (a := (false : Bool)) rfl (kt_n 5 (ks_for (α := Int) (ki_L (ke_va 2 rfl (⟨_, rfl, ⟨_, (fun (s6 : ((List Int) × (List Int) × Bool)) => [Is (enc (net1 : (T2 Int (List (T2 (List (T2 Int Rat)) (List (T2 Int Rat))))))) .any, Is (enc (stand2 : (List Rat))) .any, Is (enc (deeds3 : (List Int))) .any, Is (enc (s6.1 : (List Int))) .cl, Is (enc (s6.2.1 : (List Int))) .cl, Is (enc (s6.2.2 : Bool)) .any, Tp, Tp]), _, _, _, _, rfl, rfl, (wk_cons wk_i (wk_cons wk_i (wk_cons wk_i (wk_cons wk_i (wk_cons wk_i (wk_cons wk_a (wk_cons wk_t (wk_cons wk_t (wk_nil))))))))), (fun x7 s6 => kt_n 6 (ks_ifJ (kb_and (kb_of (ke_binV (ke_vF 6 rfl (at_ rfl (f2p o_nin (⟨_, rfl, ⟨[Is (enc (net1 : (T2 Int (List (T2 (List (T2 Int Rat)) (List (T2 Int Rat))))))) .any, Is (enc (stand2 : (List Rat))) .any, Is (enc (deeds3 : (List Int))) .any, Is (enc (s6.1 : (List Int))) .cl, Is (enc (s6.2.1 : (List Int))) .cl, Is (enc (s6.2.2 : Bool)) .any, Is (enc (x7 : Int)) .any, Tp], _, _, rfl, wk_refl, (fun _ => kb_of (ke_g1 (ke_mapM (α := Int) (γ := Bool) (ki_L (ke_call (ka_cons (ke_va 0 rfl (ka_cons (ke_vF 6 rfl (ka_nil (fc (s_takes_from net1 x7) fun v8 => ⟨_, rfl, ⟨[Is (enc (net1 : (T2 Int (List (T2 (List (T2 Int Rat)) (List (T2 Int Rat))))))) .any, Is (enc (stand2 : (List Rat))) .any, Is (enc (deeds3 : (List Int))) .any, Is (enc (s6.1 : (List Int))) .cl, Is (enc (s6.2.1 : (List Int))) .cl, Is (enc (s6.2.2 : Bool)) .any, Is (enc (x7 : Int)) .any, Tp], .cl, _, _, _, rfl, rfl, rfl, wk_refl, (vs_c rfl vs_nil), (fun x10 => kt_n 7 (ke_binV (ke_vF 7 rfl (at_ rfl (f2p o_in (⟨_, wk_i, rfl, wk_refl⟩)))))), fun row12 => fip oi_all (⟨_, rfl, ⟨rfl, wk_refl⟩⟩)⟩⟩))))))))))), fun t13 => ⟨_, (fun (s14 : ((List Int) × (List Int) × Bool)) => [Is (enc (net1 : (T2 Int (List (T2 (List (T2 Int Rat)) (List (T2 Int Rat))))))) .any, Is (enc (stand2 : (List Rat))) .any, Is (enc (deeds3 : (List Int))) .any, Is (enc (s14.1 : (List Int))) .cl, Is (enc (s14.2.1 : (List Int))) .cl, Is (enc (s14.2.2 : Bool)) .any, Is (enc (x7 : Int)) .any, Tp]), _, _, _, _, rfl, rfl, (fun _ => ks_seq (ks_app (α := Int) 4 sm_flat _ ⟨_, rfl⟩ (ke_vF 6 rfl (⟨_, _, _, rfl, rfl, rfl, rfl, fun found15 => ks_seq (ks_asg (ke_bin (ke_v 3 rfl (ke_fltM (α := Int) (γ := Int) (ki_L (ke_call (ka_cons (ke_va 0 rfl (ka_cons (ke_vF 6 rfl (ka_nil (fc (s_gives_to net1 x7) fun v16 => ⟨_, rfl, ⟨[Is (enc (net1 : (T2 Int (List (T2 (List (T2 Int Rat)) (List (T2 Int Rat))))))) .any, Is (enc (stand2 : (List Rat))) .any, Is (enc (deeds3 : (List Int))) .any, Is (enc (s6.1 : (List Int))) .any, Is (enc (found15 : (List Int))) .cl, Is (enc (s6.2.2 : Bool)) .any, Is (enc (x7 : Int)) .any, Tp], .cl, _, _, _, rfl, rfl, rfl, wk_refl, (vs_c rfl vs_nil), (fun x18 => kt_n 7 (kb_of (ke_binV (ke_vF 7 rfl (at_ rfl (f2p o_nin (⟨_, rfl, twM (⟨rfl, wk_refl⟩) (ke_vF 7 rfl (⟨_, wk_i, rfl, wk_refl⟩))⟩))))))), fun row20 => f2 o_addLF fun xs21 => kt_n 3 (ks_asg (ke_c (a := (true : Bool)) rfl (kt_n 5 (fj (wk_cons wk_i (wk_cons wk_i (wk_cons wk_i (wk_cons wk_i (wk_cons wk_i (wk_cons wk_a (wk_cons wk_i (wk_cons wk_t (wk_nil)))))))))))))⟩⟩))))))))))))⟩)))), (fun _ => ks_pass (fj wk_refl)), fun s14 => fj (wk_cons wk_i (wk_cons wk_i (wk_cons wk_i (wk_cons wk_i (wk_cons wk_i (wk_cons wk_i (wk_cons wk_t (wk_cons wk_t (wk_nil)))))))))⟩⟩⟩))))))))), fun s22 => fct wk_refl⟩⟩)))))))) (fun s23 => ks_ret (ke_tup (ka_cons (ke_m 4 rfl (ka_cons (ke_m 3 rfl (ka_nil (ft (a := (⟨s23.2.1, s23.1⟩ : (T2 (List Int) (List Int)))) .cl (rtF (ν := .cl) (r := ((⟨s23.2.1, s23.1⟩ : (T2 (List Int) (List Int))) : (T2 (List Int) (List Int)))) (fun _ h => h)))))))))))))))))))))))))))))
/-- can_be: (T2 Int (List (T2 (List (T2 Int Rat)) (List (T2 Int Rat))))), (List Rat), (List Int) -/
noncomputable def b_can_be : Stm :=
  sSeq (sAsg (eCall m_in_turn (aC (eV 0) (aC (eV 1) (aC (eV 2) (aN))))) (gT 2 (gsC (gN 3) (gsC (gN 4) (gsN)))))
  (sRet (eTup (aC (eG1V gSort 4) (aC (eG1V gSort 3) (aN)))))
noncomputable def m_can_be : Fn := fnM 3 5 false b_can_be
noncomputable def f_can_be (net1 : (T2 Int (List (T2 (List (T2 Int Rat)) (List (T2 Int Rat)))))) (stand2 : (List Rat)) (deeds3 : (List Int)) : M (T2 (List Int) (List Int)) :=
  (f_in_turn net1 stand2 deeds3).call.bind fun (v4 : (T2 (List Int) (List Int))) => M.ok ((⟨v4.b.mergeSort, v4.a.mergeSort⟩ : (T2 (List Int) (List Int))))
theorem s_can_be (net1 : (T2 Int (List (T2 (List (T2 Int Rat)) (List (T2 Int Rat)))))) (stand2 : (List Rat)) (deeds3 : (List Int)) : SFa m_can_be [enc net1, enc stand2, enc deeds3] (f_can_be net1 stand2 deeds3) .cl := by
  unfold f_can_be m_can_be b_can_be
  exact sfa [Is (enc net1) .any, Is (enc stand2) .any, Is (enc deeds3) .any, Tp, Tp] (ks_seq (ks_asg (ke_call (ka_cons (ke_va 0 rfl (ka_cons (ke_va 1 rfl (ka_cons (ke_va 2 rfl (ka_nil (fc (s_in_turn net1 stand2 deeds3) fun v4 => kt_2c (kt_n 3 (kt_n 4 (ks_ret (ke_tup (ka_cons (ke_g1VF 4 rfl (fip oi_sort (ka_cons (ke_g1VF 3 rfl (fip oi_sort (ka_nil (ft (a := (⟨v4.b.mergeSort, v4.a.mergeSort⟩ : (T2 (List Int) (List Int)))) .cl (rtF (ν := .cl) (r := ((⟨v4.b.mergeSort, v4.a.mergeSort⟩ : (T2 (List Int) (List Int))) : (T2 (List Int) (List Int)))) (fun _ h => h)))))))))))))))))))))))))
end Fl
namespace Fl
open PySem
theorem whM_run {ρ σ : Type} {c : σ → M Bool} {f : σ → M (Ctl ρ σ)} (I : σ → Prop) (μ : σ → Nat) (Q : σ → Prop)
    (hs : ∀ s, I s → (c s = .ok false ∧ Q s) ∨ (c s = .ok true ∧ ∃ s', f s = .ok (.nx s') ∧ I s' ∧ μ s' < μ s)) {s : σ} (h : I s) : ∃ s', whM c f s = .ok (.nx s') ∧ Q s' := by
  have key : ∀ (n : Nat) (s : σ), μ s < n → I s → ∃ s', whF c f n s = .ok (.nx s') ∧ Q s' := by
    intro n
    induction n with
    | zero => intro s h; omega
    | succ n ih =>
      intro s hn h
      rcases hs s h with ⟨e, q⟩ | ⟨e, s1, e1, h1, h2⟩
      · exact ⟨s, by rw [whF, e]; rfl, q⟩
      · obtain ⟨s', e3, q⟩ := ih s1 (by omega) h1
        exact ⟨s', by rw [whF, e]; simp only [M.ok_bind, if_true, e1]; exact e3, q⟩
  obtain ⟨s', e, q⟩ := key (μ s + 1) s (by omega) h
  exact ⟨s', by rw [whM_eq (n := μ s + 1) (by rw [e]; simp), e], q⟩
theorem len_le_of_sub {l l' : List Int} (nd : l.Nodup) (h : ∀ x ∈ l, x ∈ l') : l.length ≤ l'.length := by
  induction l generalizing l' with
  | nil => simp
  | cons x l ih =>
    simp only [List.nodup_cons] at nd
    have hx := h x (by simp)
    have := ih (l' := l'.erase x) nd.2 fun y hy => (List.mem_erase_of_ne (fun e => nd.1 (by rw [← e]; exact hy))).mpr (h y (List.mem_cons_of_mem _ hy))
    rw [List.length_erase_of_mem hx] at this
    have := List.length_pos_of_mem hx
    simp only [List.length_cons]; omega
abbrev WS := List Int × List Int × Bool
section
variable {m : Int} {tk gv : Int → List Int} {init deeds : List Int}
def addable (tk : Int → List Int) (s : WS) (x : Int) : Bool := !decide (x ∈ s.2.1) && (tk x).all fun p => decide (p ∈ s.1)
def stepW (tk gv : Int → List Int) (s : WS) (x : Int) : WS := if addable tk s x then (s.1 ++ (gv x).filter (fun p => !decide (p ∈ s.1)), s.2.1 ++ [x], true) else s
structure WInv (m : Int) (tk gv : Int → List Int) (init deeds : List Int) (s : WS) : Prop where
  fn : s.2.1.Nodup
  fd : ∀ d ∈ s.2.1, d ∈ deeds
  wn : s.1.Nodup
  wr : ∀ p ∈ s.1, 0 ≤ p ∧ p < m
  wi : ∀ p, p ∈ s.1 ↔ p ∈ init ∨ ∃ d ∈ s.2.1, p ∈ gv d
  od : ∀ k (hk : k < s.2.1.length), ∀ p ∈ tk s.2.1[k], p ∈ init ∨ ∃ j, ∃ (hj : j < s.2.1.length), j < k ∧ p ∈ gv s.2.1[j]
theorem WInv.step {s : WS} {x : Int} (h : WInv m tk gv init deeds s) (hx : x ∈ deeds) (hg : (gv x).Nodup) (hr : ∀ p ∈ gv x, 0 ≤ p ∧ p < m) : WInv m tk gv init deeds (stepW tk gv s x) := by
  unfold stepW
  by_cases ha : addable tk s x = true
  · rw [if_pos ha]
    unfold addable at ha
    simp only [Bool.and_eq_true, Bool.not_eq_true', decide_eq_false_iff_not, List.all_eq_true, decide_eq_true_eq] at ha
    refine ⟨?_, ?_, ?_, ?_, ?_, ?_⟩
    · exact List.nodup_append.mpr ⟨h.fn, by simp, fun y hy z hz => by simp at hz; subst hz; exact fun e => ha.1 (e ▸ hy)⟩
    · intro d hd
      rcases List.mem_append.mp hd with q | q
      · exact h.fd d q
      · simp at q; exact q ▸ hx
    · refine List.nodup_append.mpr ⟨h.wn, hg.filter _, fun y hy z hz => ?_⟩
      simp at hz
      exact fun e => hz.2 (e ▸ hy)
    · intro p hp
      rcases List.mem_append.mp hp with q | q
      · exact h.wr p q
      · simp at q; exact hr p q.1
    · intro p
      simp only [List.mem_append, List.mem_filter, Bool.not_eq_true', decide_eq_false_iff_not, List.mem_singleton]
      constructor
      · rintro (q | ⟨q, _⟩)
        · rcases (h.wi p).mp q with q | ⟨d, hd, q⟩
          · exact .inl q
          · exact .inr ⟨d, .inl hd, q⟩
        · exact .inr ⟨x, .inr rfl, q⟩
      · rintro (q | ⟨d, hd | rfl, q⟩)
        · exact .inl ((h.wi p).mpr (.inl q))
        · exact .inl ((h.wi p).mpr (.inr ⟨d, hd, q⟩))
        · by_cases hp : p ∈ s.1
          · exact .inl hp
          · exact .inr ⟨q, hp⟩
    · intro k hk p hp
      simp only [List.length_append, List.length_singleton] at hk
      by_cases hk' : k < s.2.1.length
      · simp only [List.getElem_append_left hk'] at hp
        rcases h.od k hk' p hp with q | ⟨j, hj, hjk, q⟩
        · exact .inl q
        · exact .inr ⟨j, by simp; omega, hjk, by simp only [List.getElem_append_left hj]; exact q⟩
      · have : k = s.2.1.length := by omega
        subst this
        simp at hp
        rcases (h.wi p).mp (ha.2 p hp) with q | ⟨d, hd, q⟩
        · exact .inl q
        · obtain ⟨j, hj, rfl⟩ := List.getElem_of_mem hd
          exact .inr ⟨j, by simp; omega, hj, by simp only [List.getElem_append_left hj]; exact q⟩
  · rw [if_neg ha]; exact h
theorem foldW : ∀ (l : List Int) {s : WS}, WInv m tk gv init deeds s → (∀ x ∈ l, x ∈ deeds ∧ (gv x).Nodup ∧ ∀ p ∈ gv x, 0 ≤ p ∧ p < m) →
    WInv m tk gv init deeds (l.foldl (stepW tk gv) s) ∧ s.2.1.length ≤ (l.foldl (stepW tk gv) s).2.1.length ∧
    ((l.foldl (stepW tk gv) s).2.2 = false → s.2.2 = false ∧ l.foldl (stepW tk gv) s = s ∧ ∀ x ∈ l, addable tk s x = false) ∧
    ((l.foldl (stepW tk gv) s).2.2 = true → s.2.2 = true ∨ s.2.1.length < (l.foldl (stepW tk gv) s).2.1.length)
  | [], s, h, _ => ⟨h, Nat.le_refl _, fun e => ⟨e, rfl, by simp⟩, fun e => .inl e⟩
  | x :: l, s, h, hl => by
    obtain ⟨q1, q2, q3⟩ := hl x (by simp)
    obtain ⟨r1, r2, r3, r4⟩ := foldW l (h.step q1 q2 q3) fun y hy => hl y (List.mem_cons_of_mem _ hy)
    rw [List.foldl_cons]
    have hc : addable tk s x = true ∨ addable tk s x = false := by cases addable tk s x <;> simp
    rcases hc with ha | ha
    · have e : stepW tk gv s x = (s.1 ++ (gv x).filter (fun p => !decide (p ∈ s.1)), s.2.1 ++ [x], true) := by unfold stepW; rw [if_pos ha]
      have e1 : (stepW tk gv s x).2.1.length = s.2.1.length + 1 := by rw [e]; simp
      refine ⟨r1, by omega, fun z => ?_, fun _ => .inr (by omega)⟩
      have := (r3 z).1
      rw [e] at this; cases this
    · have e : stepW tk gv s x = s := by unfold stepW; rw [if_neg (by simp [ha])]
      rw [e] at r1 r2 r3 r4 ⊢
      refine ⟨r1, r2, fun z => ⟨(r3 z).1, (r3 z).2.1, fun y hy => ?_⟩, r4⟩
      rcases List.mem_cons.mp hy with rfl | hy
      · exact ha
      · exact (r3 z).2.2 y hy
/-- what the loops of in_turn come to -/
structure WEnd (m : Int) (tk gv : Int → List Int) (init deeds : List Int) (s : WS) : Prop extends WInv m tk gv init deeds s where
  cl : ∀ x ∈ deeds, (∀ p ∈ tk x, p ∈ s.1) → x ∈ s.2.1
theorem wet_loop {ρ : Type} {c : WS → M Bool} {f : WS → M (Ctl ρ WS)} {body : Int → WS → M WS} (hd : ∀ x ∈ deeds, (gv x).Nodup ∧ ∀ p ∈ gv x, 0 ≤ p ∧ p < m) (hi : init.Nodup ∧ ∀ p ∈ init, 0 ≤ p ∧ p < m) (hm : m ≤ 1000) (hl : deeds.length ≤ 1000)
    (hc : ∀ s, c s = .ok s.2.2) (hf : ∀ s, f s = (forN body deeds (s.1, s.2.1, false)).bind fun s => .ok (.nx s))
    (hb : ∀ x ∈ deeds, ∀ s : WS, s.1.length ≤ 1000 → s.2.1.length ≤ 1000 → body x s = .ok (stepW tk gv s x)) : ∃ s, whM c f (init, [], true) = .ok (.nx s) ∧ WEnd m tk gv init deeds s := by
  have h0 : WInv m tk gv init deeds (init, [], true) := ⟨by simp, by simp, hi.1, hi.2, fun p => by simp, by simp⟩
  have hlen : ∀ s : WS, WInv m tk gv init deeds s → s.1.length ≤ 1000 ∧ s.2.1.length ≤ deeds.length := fun s h => by
    have h1 := len_le_of_sub (l' := rg 0 m) h.wn fun p hp => mem_rg.mpr (h.wr p hp)
    have h2 := len_le_of_sub h.fn h.fd
    simp at h1; omega
  obtain ⟨s, e, q1, q2⟩ := whM_run (c := c) (f := f) (I := fun s => WInv m tk gv init deeds s ∧ (s.2.2 = false → ∀ x ∈ deeds, addable tk s x = false)) (μ := fun s => 2 * (deeds.length - s.2.1.length) + if s.2.2 then 1 else 0)
    (Q := fun s => WInv m tk gv init deeds s ∧ ∀ x ∈ deeds, addable tk s x = false) (fun s hs => by
      obtain ⟨h, hn⟩ := hs
      cases hfl : s.2.2 with
      | false => exact .inl ⟨by rw [hc, hfl], h, hn hfl⟩
      | true =>
        have hW : WInv m tk gv init deeds (s.1, s.2.1, false) := ⟨h.fn, h.fd, h.wn, h.wr, h.wi, h.od⟩
        have e := forN_fold (f := body) (g := stepW tk gv) (I := fun s => WInv m tk gv init deeds s) (xs := deeds) hW (fun x hx s hs => by
          have := hlen s hs
          exact ⟨hb x hx s this.1 (by omega), hs.step hx (hd x hx).1 (hd x hx).2⟩)
        obtain ⟨r1, r2, r3, r4⟩ := foldW deeds hW fun x hx => ⟨hx, hd x hx⟩
        refine .inr ⟨by rw [hc, hfl], _, by rw [hf, e]; rfl, ⟨r1, fun z => ?_⟩, ?_⟩
        · obtain ⟨_, z2, z3⟩ := r3 z
          rw [z2]; exact z3
        · have h1 := (hlen _ r1).2
          cases hz : (deeds.foldl (stepW tk gv) (s.1, s.2.1, false)).2.2 with
          | false => simp [hfl] at r2 ⊢; omega
          | true =>
            rcases r4 hz with z | z
            · cases z
            · simp [hfl] at z ⊢; omega) (s := (init, [], true)) ⟨h0, by simp⟩
  refine ⟨s, e, q1, fun x hx ht => ?_⟩
  have := q2 x hx
  unfold addable at this
  apply Classical.byContradiction
  intro hn
  have h2 : (!decide (x ∈ s.2.1) && (tk x).all fun p => decide (p ∈ s.1)) = true := by simp [hn]; exact ht
  rw [h2] at this; cases this
theorem wet_goal {ρ : Type} {c : WS → M Bool} {f : WS → M (Ctl ρ WS)} {k : Ctl ρ WS → M ρ} {r : WS → ρ} {body : Int → WS → M WS} (hd : ∀ x ∈ deeds, (gv x).Nodup ∧ ∀ p ∈ gv x, 0 ≤ p ∧ p < m) (hi : init.Nodup ∧ ∀ p ∈ init, 0 ≤ p ∧ p < m) (hm : m ≤ 1000) (hl : deeds.length ≤ 1000)
    (hc : ∀ s, c s = .ok s.2.2) (hf : ∀ s, f s = (forN body deeds (s.1, s.2.1, false)).bind fun s => .ok (.nx s)) (hk : ∀ s, k (.nx s) = .ok (r s))
    (hb : ∀ x ∈ deeds, ∀ s : WS, s.1.length ≤ 1000 → s.2.1.length ≤ 1000 → body x s = .ok (stepW tk gv s x)) : ∃ s, (whM c f (init, [], true)).bind k = .ok (r s) ∧ WEnd m tk gv init deeds s := by
  obtain ⟨s, e, q⟩ := wet_loop hd hi hm hl hc hf hb
  exact ⟨s, by rw [e]; exact hk s, q⟩
end
end Fl
namespace Fl
open PySem
def dd (n : Net) (x : Int) : Deed := n.b.getD x.toNat ⟨[], []⟩
def tkN (n : Net) (x : Int) : List Int := (dd n x).a.map T2.a
def gvN (n : Net) (x : Int) : List Int := (dd n x).b.map T2.a
def wets (m : Int) (f : Int → Rat) : List Int := (rg 0 m).filter fun j => decide (0 < f j)
theorem num_pos_iff {q : Rat} : 0 < q.num ↔ 0 < q := ⟨fun h => by
  have h0 : 0 ≤ q := Rat.num_nonneg.mp (by omega)
  have := (gt0_num h0).mp h
  grind, num_pos⟩
section
variable {n : Net} {x : Int}
theorem ix_dd (h0 : 0 ≤ x) (h1 : x < n.b.length) : ix n.b x = .ok (dd n x) := by
  rw [ix_of h0 (by omega)]; unfold dd; rw [List.getD_eq_getElem?_getD, List.getElem?_eq_getElem (by omega)]; rfl
theorem NetOk.dok (h : NetOk n) (x : Int) : DeedOk n.a (dd n x) := by
  unfold dd
  rw [List.getD_eq_getElem?_getD]
  cases e : n.b[x.toNat]? with
  | none => exact ⟨SideOk.nil, SideOk.nil⟩
  | some d => exact h.ok d (List.mem_of_getElem? e)
theorem takes_from_eq (h0 : 0 ≤ x) (h1 : x < n.b.length) (hl : (dd n x).a.length ≤ 1000) : f_takes_from n x = .ok (tkN n x) := by
  unfold f_takes_from
  rw [ix_dd h0 h1]
  simp only [M.ok_bind]
  rw [mapM_of (h := T2.a) (by omega) fun p _ => rfl]; rfl
theorem gives_to_eq (h0 : 0 ≤ x) (h1 : x < n.b.length) (hl : (dd n x).b.length ≤ 1000) : f_gives_to n x = .ok (gvN n x) := by
  unfold f_gives_to
  rw [ix_dd h0 h1]
  simp only [M.ok_bind]
  rw [mapM_of (h := T2.a) (by omega) fun p _ => rfl]; rfl
end
theorem filterMap_if {α γ : Type} {p : α → Bool} {g : α → γ} (xs : List α) : xs.filterMap (fun x => if p x then some (g x) else none) = (xs.filter p).map g := by
  induction xs with
  | nil => rfl
  | cons x xs ih => cases hp : p x <;> simp [hp, ih]
/-- a filter that tells something of each thing -/
theorem fltM_map {α γ : Type} {b : α → M (Option γ)} {p : α → Bool} {g : α → γ} {xs : List α} (hl : xs.length ≤ 100000) (hb : ∀ x ∈ xs, b x = .ok (if p x then some (g x) else none)) : fltM b xs = .ok ((xs.filter p).map g) := by
  rw [fltM_of hl hb, filterMap_if]
section
variable {m : Int} {f : Int → Rat}
theorem wet_in_eq (hm : m ≤ 1000) : f_wet_in (vec m f) = .ok (wets m f) := by
  unfold f_wet_in
  rw [enm_vec, fltM_map (p := fun t : T2 Int Rat => decide (0 < t.b)) (g := fun t => t.a) (by simp; omega) (fun t _ => by simp only [num_pos_iff]; split <;> simp_all)]
  simp only [M.ok_bind]
  congr 1
  unfold vec wets
  rw [List.filter_map, List.map_map]
  simp [Function.comp_def]
theorem mem_wets {j : Int} : j ∈ wets m f ↔ (0 ≤ j ∧ j < m) ∧ 0 < f j := by simp [wets, mem_rg]
theorem rg_lt (a b : Int) : (rg a b).Pairwise (· < ·) := by
  unfold rg
  rw [List.pairwise_map]
  exact List.pairwise_lt_range.imp fun h => by omega
theorem rg_nodup (a b : Int) : (rg a b).Nodup := (rg_lt a b).imp fun h => by omega
theorem wets_ok : (wets m f).Nodup ∧ ∀ p ∈ wets m f, 0 ≤ p ∧ p < m := ⟨(rg_nodup 0 m).filter _, fun p hp => (mem_wets.mp hp).1⟩
end
/-- what can be wet of n, from the stand f, by the deeds told -/
abbrev Wet (n : Net) (f : Int → Rat) (deeds : List Int) (s : WS) : Prop := WEnd n.a (tkN n) (gvN n) (wets n.a f) deeds s
section
variable {n : Net} {f : Int → Rat} {deeds : List Int}
structure DeedsOk (n : Net) (deeds : List Int) : Prop where
  rg : ∀ x ∈ deeds, 0 ≤ x ∧ x < n.b.length
  ln : deeds.length ≤ 1000
theorem deeds_all (h : NetOk n) : DeedsOk n (rg 0 n.b.length) := ⟨fun x hx => by rw [mem_rg] at hx; exact hx, by have := h.ln; simp; omega⟩
theorem NetOk.gv (h : NetOk n) (x : Int) : (gvN n x).Nodup ∧ ∀ p ∈ gvN n x, 0 ≤ p ∧ p < n.a := ⟨(h.dok x).r.nd, fun p hp => by
  obtain ⟨q, hq, rfl⟩ := List.mem_map.mp hp
  exact (h.dok x).r.rg q hq⟩
theorem NetOk.tk (h : NetOk n) (x : Int) : (tkN n x).Nodup ∧ ∀ p ∈ tkN n x, 0 ≤ p ∧ p < n.a := ⟨(h.dok x).l.nd, fun p hp => by
  obtain ⟨q, hq, rfl⟩ := List.mem_map.mp hp
  exact (h.dok x).l.rg q hq⟩
theorem len_gv (h : NetOk n) (x : Int) : (gvN n x).length ≤ 1000 := by have := (h.dok x).r.ln; simpa [gvN] using this
theorem len_tk (h : NetOk n) (x : Int) : (tkN n x).length ≤ 1000 := by have := (h.dok x).l.ln; simpa [tkN] using this
theorem in_turn_eq (h : NetOk n) (hd : DeedsOk n deeds) : ∃ s, f_in_turn n (vec n.a f) deeds = .ok ⟨s.2.1, s.1⟩ ∧ Wet n f deeds s := by
  have hm := h.m1
  unfold f_in_turn
  rw [wet_in_eq (by omega)]
  simp only [M.call_ok, M.ok_bind]
  refine wet_goal (m := n.a) (tk := tkN n) (gv := gvN n) (init := wets n.a f) (deeds := deeds) (fun x _ => h.gv x) wets_ok (by omega) hd.ln (fun s => rfl) (fun s => rfl) (fun s => rfl) ?_
  intro x hx s h1 h2
  have hx' := hd.rg x hx
  have lg := len_gv h x
  have ls := len_tk h x
  by_cases hf : x ∈ s.2.1
  · simp [hf, stepW, addable]
  · have e1 := takes_from_eq (n := n) hx'.1 hx'.2 (by simpa [tkN] using ls)
    have e2 := gives_to_eq (n := n) hx'.1 hx'.2 (by simpa [gvN] using lg)
    have e3 : mapM (fun (x10 : Int) => (M.ok (decide (x10 ∈ s.1)) : M Bool)) (tkN n x) = .ok ((tkN n x).map fun p => decide (p ∈ s.1)) := mapM_of (by omega) fun _ _ => rfl
    have e4 : fltM (fun (x18 : Int) => ((if (!(decide (x18 ∈ s.1))) then M.ok (some x18) else M.ok none) : M (Option Int))) (gvN n x) = .ok ((gvN n x).filter fun p => !decide (p ∈ s.1)) := fltM_if (by omega) fun y _ => by split <;> rfl
    have la : s.2.1.length < 100000 := by omega
    have lc : s.1.length + ((gvN n x).filter fun p => !decide (p ∈ s.1)).length ≤ 100000 := by
      have := List.length_filter_le (fun p => !decide (p ∈ s.1)) (gvN n x)
      omega
    have e5 : (((tkN n x).map fun p => decide (p ∈ s.1)).all id) = (tkN n x).all fun p => decide (p ∈ s.1) := by simp [List.all_map, Function.comp_def]
    simp only [hf, decide_false, Bool.not_false, if_true, e1, M.call_ok, M.ok_bind, e3, e5]
    cases ha : (tkN n x).all fun p => decide (p ∈ s.1) with
    | true =>
      simp only [if_true, appL_of la, M.ok_bind, e2, M.call_ok, e4, catL_of lc]
      simp [stepW, addable, hf, ha]
    | false => simp [stepW, addable, hf, ha]
/-- what can be wet is one -/
theorem WEnd.sub {m : Int} {tk gv : Int → List Int} {init deeds : List Int} {s t : WS} (hs : WEnd m tk gv init deeds s) (ht : WEnd m tk gv init deeds t) : ∀ k (hk : k < s.2.1.length), s.2.1[k] ∈ t.2.1 := by
  intro k
  induction k using Nat.strongRecOn with
  | ind k ih =>
    intro hk
    refine ht.cl _ (hs.fd _ (List.getElem_mem hk)) fun p hp => ?_
    rcases hs.od k hk p hp with q | ⟨j, hj, hjk, q⟩
    · exact (ht.wi p).mpr (.inl q)
    · exact (ht.wi p).mpr (.inr ⟨_, ih j hjk hj, q⟩)
theorem WEnd.same {m : Int} {tk gv : Int → List Int} {init deeds : List Int} {s t : WS} (hs : WEnd m tk gv init deeds s) (ht : WEnd m tk gv init deeds t) : (∀ d, d ∈ s.2.1 ↔ d ∈ t.2.1) ∧ ∀ p, p ∈ s.1 ↔ p ∈ t.1 := by
  have h1 : ∀ d, d ∈ s.2.1 ↔ d ∈ t.2.1 := fun d => ⟨fun h => by obtain ⟨k, hk, rfl⟩ := List.getElem_of_mem h; exact hs.sub ht k hk, fun h => by obtain ⟨k, hk, rfl⟩ := List.getElem_of_mem h; exact ht.sub hs k hk⟩
  refine ⟨h1, fun p => ?_⟩
  rw [hs.wi, ht.wi]
  constructor
  · rintro (q | ⟨d, hd, q⟩)
    · exact .inl q
    · exact .inr ⟨d, (h1 d).mp hd, q⟩
  · rintro (q | ⟨d, hd, q⟩)
    · exact .inl q
    · exact .inr ⟨d, (h1 d).mpr hd, q⟩
theorem sort_same {xs ys : List Int} (h1 : xs.Nodup) (h2 : ys.Nodup) (h : ∀ k, k ∈ xs ↔ k ∈ ys) : xs.mergeSort = ys.mergeSort := by
  have so : ∀ zs : List Int, zs.mergeSort.Pairwise (· ≤ ·) := fun zs => (List.pairwise_mergeSort (le := fun a b : Int => decide (a ≤ b)) (fun a b c => by simp; omega) (fun a b => by simp; omega) zs).imp (by simp)
  exact sort_uniq ((List.mergeSort_perm xs _).trans (((List.perm_ext_iff_of_nodup h1 h2).mpr h).trans (List.mergeSort_perm ys _).symm)) (so xs) (so ys)
theorem can_be_eq (h : NetOk n) (hd : DeedsOk n deeds) : ∃ s, f_can_be n (vec n.a f) deeds = .ok ⟨s.1.mergeSort, s.2.1.mergeSort⟩ ∧ Wet n f deeds s := by
  obtain ⟨s, e, q⟩ := in_turn_eq (f := f) h hd
  exact ⟨s, by simp [f_can_be, e], q⟩
end
end Fl
namespace Fl
open PySem
/-- a filter by a test that always tells -/
theorem fltM_p {α : Type} {g : α → M (Option α)} (p : α → Bool) {xs : List α} (hl : xs.length ≤ 100000) (hg : ∀ x ∈ xs, g x = if p x then .ok (some x) else .ok none) : fltM g xs = .ok (xs.filter p) :=
  fltM_if hl fun x hx => by rw [hg x hx]; split <;> rfl
theorem have_some_eq {xs ys : List Int} (h : xs.length ≤ 100000) : f_have_some xs ys = .ok (xs.any fun x => decide (x ∈ ys)) := by
  unfold f_have_some
  rw [fltM_p (fun x => decide (x ∈ ys)) h fun x _ => rfl]
  simp only [M.ok_bind]
  congr 1
  rw [Bool.eq_iff_iff]
  simp only [decide_eq_true_eq, List.any_eq_true]
  constructor
  · intro h
    have h2 : 0 < (xs.filter fun x => decide (x ∈ ys)).length := by omega
    obtain ⟨x, hx⟩ := List.exists_mem_of_length_pos h2
    simp at hx
    exact ⟨x, hx.1, hx.2⟩
  · rintro ⟨x, h1, h2⟩
    have := List.length_pos_of_mem (show x ∈ xs.filter fun x => decide (x ∈ ys) by simp [h1, h2])
    omega
end Fl
namespace Fl
open PySem
open Ty (enc)
theorem vec_all {P : Rat → Prop} {xs : List Rat} (h0 : P 0) (h : ∀ x ∈ xs, P x) : ∃ f, xs = vec xs.length f ∧ ∀ j, P (f j) := by
  refine ⟨fun j => xs.getD j.toNat 0, ?_, fun j => ?_⟩
  · apply List.ext_getElem
    · simp
    · intro k h1 h2; rw [get_vec]; simp [List.getD, h1]
  · dsimp only
    rw [List.getD_eq_getElem?_getD]
    cases e : xs[j.toNat]? with
    | none => exact h0
    | some x => exact h x (List.mem_of_getElem? e)
/-- pairs that can be made fractions -/
def PrOk (b : Nat) (t : T2 Int Int) : Prop := t.a.natAbs < 2 ^ b ∧ 0 < t.b ∧ t.b.natAbs < 2 ^ b
theorem PrOk.sz {b : Nat} {t : T2 Int Int} (h : PrOk b t) : Sz (Rat.divInt t.a t.b) b := sz_divInt (by have := h.2.1; omega) h.1 h.2.2
theorem rgM_of' {a b : Int} (h : -1000000 ≤ a ∧ a ≤ 1000000 ∧ -1000000 ≤ b ∧ b ≤ 1000000) : rgM a b = .ok (rg a b) := if_pos h
end Fl
set_option synthInstance.maxHeartbeats 400000
set_option synthInstance.maxSize 4000
namespace Fl
open PySem PySem.Spec PyProof.Rows L2
open Ty (enc)
/-- _law_net: Scr, Int, Int -/
noncomputable def b_net2c : Stm :=
  sSeq (sAsg (eCall m_law_pool (aC (eV 0) (aC (eV 1) (aN)))) (gN 3))
  (sSeq (sAsg (eBin addD (eC (.int 1)) (eCallX m_take2 3 (aC (eV 2) (aN)))) (gN 4))
  (sRet (eTup (aC (eV 4) (aC (eLc 6 (iR1 (aC (eCallX m_take2 3 (aC (eC (.int 11)) (aN))) (aN))) (gN 5) (bYes) (eCall m_deed2 (aC (eCall m_law_pool (aC (eV 0) (aC (eBin addD (eBin addD (eV 1) (eC (.int 1))) (eV 5)) (aN)))) (aC (eV 4) (aN)))) [5]) (aN))))))
noncomputable def m_net2c : Fn := fnM 3 6 false b_net2c
noncomputable def f_net2c (script1 : Scr) (at2 : Int) (most_here3 : Int) : M (T2 Int (List (T2 (List (T2 Int Rat)) (List (T2 Int Rat))))) :=
  (f_law_pool script1 at2).call.bind fun (v4 : (F2 Int Int)) => (f_take2 v4 most_here3).call.bind2 fun (v5 : Int) (pool_here6 : (F2 Int Int)) => (f_take2 pool_here6 (11 : Int)).call.bind2 fun (v7 : Int) (pool_here8 : (F2 Int Int)) => (rgM 0 v7).bind fun (xs9 : List Int) => (mapM (fun (x11 : Int) => ((f_law_pool script1 ((at2 + (1 : Int)) + x11)).call.bind fun (v12 : (F2 Int Int)) => (f_deed2 v12 ((1 : Int) + v5)).call.bind2 fun (v13 : (T2 (List (T2 Int Rat)) (List (T2 Int Rat)))) (_ : (F2 Int Int)) => M.ok v13 : M (T2 (List (T2 Int Rat)) (List (T2 Int Rat))))) xs9).bind fun (row15 : (List (T2 (List (T2 Int Rat)) (List (T2 Int Rat))))) => M.ok ((⟨((1 : Int) + v5), row15⟩ : (T2 Int (List (T2 (List (T2 Int Rat)) (List (T2 Int Rat)))))))
theorem s_net2c (script1 : Scr) (at2 : Int) (most_here3 : Int) : SFa m_net2c [enc script1, enc at2, enc most_here3] (f_net2c script1 at2 most_here3) .cl := by
  unfold f_net2c m_net2c b_net2c
  exact sfa [Is (enc script1) .any, Is (enc at2) .any, Is (enc most_here3) .any, Tp, Tp, Tp] (ks_seq (ks_asg (ke_call (ka_cons (ke_va 0 rfl (ka_cons (ke_vF 1 rfl (ka_nil (fc (s_law_pool script1 at2) fun v4 => kt_n 3 (ks_seq (ks_asg (ke_bin (ke_c (a := ((1 : Int) : Int)) rfl (ke_callX 3 (at_ rfl trivial) (ka_cons (ke_vF 2 rfl (ka_nil (fcx (s_take2 v4 most_here3) fun v5 pool_here6 => f2p o_add (kt_n 4 (ks_ret (ke_tup (ka_cons (ke_vF 4 rfl (ka_cons (ke_mapM (α := Int) (γ := (T2 (List (T2 Int Rat)) (List (T2 Int Rat)))) (ki_R1 (ka_cons (ke_callX 3 (at_ rfl trivial) (ka_cons (ke_c (a := ((11 : Int) : Int)) rfl (ka_nil (fcx (s_take2 pool_here6 (11 : Int)) fun v7 pool_here8 => ka_nil (⟨_, _, _, rfl, rfl, fun xs9 => ⟨[Is (enc (script1 : Scr)) .any, Is (enc (at2 : Int)) .any, Is (enc (most_here3 : Int)) .any, Is (enc (pool_here8 : (F2 Int Int))) .cl, Is (enc (((1 : Int) + v5) : Int)) .any, Tp], .cl, _, _, _, rfl, rfl, rfl, (wk_cons wk_i (wk_cons wk_i (wk_cons wk_i (wk_cons wk_i (wk_cons wk_a (wk_cons wk_t (wk_nil))))))), (vs_c rfl vs_nil), (fun x11 => kt_n 5 (ke_call (ka_cons (ke_call (ka_cons (ke_va 0 rfl (ka_cons (ke_bin (ke_bin (ke_vF 1 rfl (ke_c (a := ((1 : Int) : Int)) rfl (f2p o_add (ke_vF 5 rfl (f2p o_add (ka_nil (fc (s_law_pool script1 ((at2 + (1 : Int)) + x11)) fun v12 => ka_cons (ke_vF 4 rfl (ka_nil (fcT (s_deed2 v12 ((1 : Int) + v5)) fun v13 _ => ⟨_, wk_i, rfl, wk_refl⟩))))))))))))))))))), fun row15 => ka_nil (ft (a := (⟨((1 : Int) + v5), row15⟩ : (T2 Int (List (T2 (List (T2 Int Rat)) (List (T2 Int Rat))))))) .cl (rtF (ν := .cl) (r := ((⟨((1 : Int) + v5), row15⟩ : (T2 Int (List (T2 (List (T2 Int Rat)) (List (T2 Int Rat)))))) : (T2 Int (List (T2 (List (T2 Int Rat)) (List (T2 Int Rat))))))) (fun _ h => h)))⟩⟩)))))))))))))))))))))))))))))))))
/-- cut_down: (List (T2 (List Int) (List Int))), (List Int) -/
noncomputable def b_cut_down : Stm :=
  sSeq (sAsg (eG1V gList 1) (gN 2))
  (sSeq (sAsg (eUn fNeg (eC (.int 1))) (gN 3))
  (sSeq (sWhile (bOf (eBinL fNe 3 (eBV gLen 2))) (sSeq (sAsg (eBV gLen 2) (gN 3))
  (sFor (iL (eV 0)) (gT 2 (gsC (gN 4) (gsC (gN 5) (gsN))))
  (sIf (bNot (bOf (eCall m_have_some (aC (eV 5) (aC (eV 2) (aN)))))) (sAsg (eLc 7 (iL (eV 2)) (gN 6) (bOf (eBinV fNotIn (eV 6) 4)) (eV 6) [6]) (gN 2)) (sPass)))))
  (sRet (eM 2))))
noncomputable def m_cut_down : Fn := fnM 2 7 false b_cut_down
noncomputable def f_cut_down (rows1 : (List (T2 (List Int) (List Int)))) (places2 : (List Int)) : M (List Int) :=
  (whM (ρ := (List Int)) (fun (s3 : ((List Int) × Int)) => M.ok ((!(decide ((s3.2 : Int) = (s3.1.length : Int)))) : Bool)) (fun (s3 : ((List Int) × Int)) => (forN (fun (x5 : (T2 (List Int) (List Int))) (s4 : (List Int)) => (f_have_some x5.b s4).call.bind fun (v6 : Bool) => (if (!v6) then ((fltM (fun (x9 : Int) => ((if (!(decide (x9 ∈ x5.a))) then M.ok (some x9) else M.ok none) : M (Option Int))) s4).bind fun (row11 : (List Int)) => M.ok row11 : M (List Int)) else M.ok s4).bind fun (s7 : (List Int)) => M.ok s7) rows1 s3.1).bind fun (s12 : (List Int)) => M.ok (Ctl.nx (s12, (s3.1.length : Int)))) (places2, (-(1 : Int)))).bind fun c => c.go fun (s13 : ((List Int) × Int)) => M.ok s13.1
theorem s_cut_down (rows1 : (List (T2 (List Int) (List Int)))) (places2 : (List Int)) : SFa m_cut_down [enc rows1, enc places2] (f_cut_down rows1 places2) .any := by
  unfold f_cut_down m_cut_down b_cut_down
  exact sfa [Is (enc rows1) .any, Is (enc places2) .any, Tp, Tp, Tp, Tp, Tp] (ks_seq (ks_asg (ke_g1VF 1 rfl (fip oi_listF (kt_n 2 (ks_seq (ks_asg (ke_un (ke_c (a := ((1 : Int) : Int)) rfl (f1p o_neg (kt_n 3 (ks_seq (ks_while (σ := ((List Int) × Int)) (fun (s3 : ((List Int) × Int)) => [Is (enc (rows1 : (List (T2 (List Int) (List Int))))) .any, Is (enc (places2 : (List Int))) .any, Is (enc (s3.1 : (List Int))) .any, Is (enc (s3.2 : Int)) .any, Tp, Tp, Tp]) (wk_cons wk_i (wk_cons wk_i (wk_cons wk_a (wk_cons wk_a (wk_cons wk_t (wk_cons wk_t (wk_cons wk_t (wk_nil)))))))) (fun s3 => kb_of (ke_binL (at_ rfl trivial) (ke_bV (at_ rfl (fap o_len (at_ rfl (f2p (o_ne (a := (s3.2 : Int)) (b := ((s3.1.length : Int) : Int))) (⟨_, rfl, ⟨rfl, wk_refl⟩⟩)))))))) (fun s3 _ => ks_seq (ks_asg (ke_bV (at_ rfl (fap o_len (kt_n 3 (ks_for (α := (T2 (List Int) (List Int))) (ki_L (ke_va 0 rfl (⟨_, rfl, ⟨_, (fun (s4 : (List Int)) => [Is (enc (rows1 : (List (T2 (List Int) (List Int))))) .any, Is (enc (places2 : (List Int))) .any, Is (enc (s4 : (List Int))) .any, Is (enc ((s3.1.length : Int) : Int)) .any, Tp, Tp, Tp]), _, _, _, _, rfl, rfl, (wk_cons wk_i (wk_cons wk_i (wk_cons wk_i (wk_cons wk_a (wk_cons wk_t (wk_cons wk_t (wk_cons wk_t (wk_nil)))))))), (fun x5 s4 => kt_2 (kt_n 4 (kt_n 5 (ks_ifJ (kb_not (kb_of (ke_call (ka_cons (ke_va 5 rfl (ka_cons (ke_va 2 rfl (ka_nil (fc (s_have_some x5.b s4) fun v6 => ⟨_, rfl, ⟨_, (fun (s7 : (List Int)) => [Is (enc (rows1 : (List (T2 (List Int) (List Int))))) .any, Is (enc (places2 : (List Int))) .any, Is (enc (s7 : (List Int))) .any, Is (enc ((s3.1.length : Int) : Int)) .any, Is (enc (x5.a : (List Int))) .any, Is (enc (x5.b : (List Int))) .any, Tp]), _, _, _, _, rfl, rfl, (fun _ => ks_asg (ke_fltM (α := Int) (γ := Int) (ki_L (ke_va 2 rfl (⟨_, rfl, ⟨[Is (enc (rows1 : (List (T2 (List Int) (List Int))))) .any, Is (enc (places2 : (List Int))) .any, Is (enc (s4 : (List Int))) .any, Is (enc ((s3.1.length : Int) : Int)) .any, Is (enc (x5.a : (List Int))) .any, Is (enc (x5.b : (List Int))) .any, Tp], .cl, _, _, _, rfl, rfl, rfl, wk_refl, (vs_c rfl vs_nil), (fun x9 => kt_n 6 (kb_of (ke_binV (ke_vF 6 rfl (at_ rfl (f2p o_nin (⟨_, rfl, twM (⟨rfl, wk_refl⟩) (ke_vF 6 rfl (⟨_, wk_i, rfl, wk_refl⟩))⟩))))))), fun row11 => kt_n 2 (fj (wk_cons wk_i (wk_cons wk_i (wk_cons wk_a (wk_cons wk_i (wk_cons wk_i (wk_cons wk_i (wk_cons wk_t (wk_nil)))))))))⟩⟩))))), (fun _ => ks_pass (fj wk_refl)), fun s7 => fj (wk_cons wk_i (wk_cons wk_i (wk_cons wk_i (wk_cons wk_i (wk_cons wk_t (wk_cons wk_t (wk_cons wk_t (wk_nil))))))))⟩⟩))))))))))))), fun s12 => fct wk_refl⟩⟩)))))))))) (fun s13 => ks_ret (ke_m 2 rfl (rtF (ν := .any) (r := (s13.1 : (List Int))) (fun _ h => h)))))))))))))))))
/-- stays_dry: (T2 Int (List (T2 (List (T2 Int Rat)) (List (T2 Int Rat))))), (List Int) -/
noncomputable def b_stays_dry : Stm :=
  sRet (eCall m_cut_down (aC (eLc 3 (iR1 (aC (eB gLen (aC (eIxV 0 (eC (.int 1))) (aN))) (aN))) (gN 2) (bYes) (eTup (aC (eCall m_gives_to (aC (eV 0) (aC (eV 2) (aN)))) (aC (eCall m_takes_from (aC (eV 0) (aC (eV 2) (aN)))) (aN)))) [2]) (aC (eV 1) (aN))))
noncomputable def m_stays_dry : Fn := fnM 2 3 false b_stays_dry
noncomputable def f_stays_dry (net1 : (T2 Int (List (T2 (List (T2 Int Rat)) (List (T2 Int Rat)))))) (places2 : (List Int)) : M (List Int) :=
  (rgM 0 (net1.b.length : Int)).bind fun (xs3 : List Int) => (mapM (fun (x5 : Int) => ((f_gives_to net1 x5).call.bind fun (v6 : (List Int)) => (f_takes_from net1 x5).call.bind fun (v7 : (List Int)) => M.ok (⟨v6, v7⟩ : (T2 (List Int) (List Int))) : M (T2 (List Int) (List Int)))) xs3).bind fun (row9 : (List (T2 (List Int) (List Int)))) => (f_cut_down row9 places2).call.bind fun (v10 : (List Int)) => M.ok v10
theorem s_stays_dry (net1 : (T2 Int (List (T2 (List (T2 Int Rat)) (List (T2 Int Rat)))))) (places2 : (List Int)) : SFa m_stays_dry [enc net1, enc places2] (f_stays_dry net1 places2) .any := by
  unfold f_stays_dry m_stays_dry b_stays_dry
  exact sfa [Is (enc net1) .any, Is (enc places2) .any, Tp] (ks_ret (ke_call (ka_cons (ke_mapM (α := Int) (γ := (T2 (List Int) (List Int))) (ki_R1 (ka_cons (ke_b (ka_cons (ke_ixV 0 (at_ rfl trivial) (ke_c (a := ((1 : Int) : Int)) rfl (⟨_, rfl, at_ rfl (fxAp iv_2b rfl (ka_nil (fap o_len (ka_nil (⟨_, _, _, rfl, rfl, fun xs3 => ⟨[Is (enc (net1 : (T2 Int (List (T2 (List (T2 Int Rat)) (List (T2 Int Rat))))))) .any, Is (enc (places2 : (List Int))) .any, Tp], .cl, _, _, _, rfl, rfl, rfl, wk_refl, (vs_c rfl vs_nil), (fun x5 => kt_n 2 (ke_tup (ka_cons (ke_call (ka_cons (ke_va 0 rfl (ka_cons (ke_vF 2 rfl (ka_nil (fc (s_gives_to net1 x5) fun v6 => ka_cons (ke_call (ka_cons (ke_va 0 rfl (ka_cons (ke_vF 2 rfl (ka_nil (fc (s_takes_from net1 x5) fun v7 => ka_nil (ft (a := (⟨v6, v7⟩ : (T2 (List Int) (List Int)))) .cl (⟨_, wk_i, rfl, wk_refl⟩))))))))))))))))))), fun row9 => ka_cons (ke_va 1 rfl (ka_nil (fc (s_cut_down row9 places2) fun v10 => rtF (ν := .any) (r := (v10 : (List Int))) (fun _ h => h))))⟩⟩)))))⟩)))))))))))
/-- stays_wet: (T2 Int (List (T2 (List (T2 Int Rat)) (List (T2 Int Rat))))), (List Int) -/
noncomputable def b_stays_wet : Stm :=
  sRet (eCall m_cut_down (aC (eLc 3 (iR1 (aC (eB gLen (aC (eIxV 0 (eC (.int 1))) (aN))) (aN))) (gN 2) (bYes) (eTup (aC (eCall m_takes_from (aC (eV 0) (aC (eV 2) (aN)))) (aC (eCall m_gives_to (aC (eV 0) (aC (eV 2) (aN)))) (aN)))) [2]) (aC (eV 1) (aN))))
noncomputable def m_stays_wet : Fn := fnM 2 3 false b_stays_wet
noncomputable def f_stays_wet (net1 : (T2 Int (List (T2 (List (T2 Int Rat)) (List (T2 Int Rat)))))) (places2 : (List Int)) : M (List Int) :=
  (rgM 0 (net1.b.length : Int)).bind fun (xs3 : List Int) => (mapM (fun (x5 : Int) => ((f_takes_from net1 x5).call.bind fun (v6 : (List Int)) => (f_gives_to net1 x5).call.bind fun (v7 : (List Int)) => M.ok (⟨v6, v7⟩ : (T2 (List Int) (List Int))) : M (T2 (List Int) (List Int)))) xs3).bind fun (row9 : (List (T2 (List Int) (List Int)))) => (f_cut_down row9 places2).call.bind fun (v10 : (List Int)) => M.ok v10
theorem s_stays_wet (net1 : (T2 Int (List (T2 (List (T2 Int Rat)) (List (T2 Int Rat)))))) (places2 : (List Int)) : SFa m_stays_wet [enc net1, enc places2] (f_stays_wet net1 places2) .any := by
  unfold f_stays_wet m_stays_wet b_stays_wet
  exact sfa [Is (enc net1) .any, Is (enc places2) .any, Tp] (ks_ret (ke_call (ka_cons (ke_mapM (α := Int) (γ := (T2 (List Int) (List Int))) (ki_R1 (ka_cons (ke_b (ka_cons (ke_ixV 0 (at_ rfl trivial) (ke_c (a := ((1 : Int) : Int)) rfl (⟨_, rfl, at_ rfl (fxAp iv_2b rfl (ka_nil (fap o_len (ka_nil (⟨_, _, _, rfl, rfl, fun xs3 => ⟨[Is (enc (net1 : (T2 Int (List (T2 (List (T2 Int Rat)) (List (T2 Int Rat))))))) .any, Is (enc (places2 : (List Int))) .any, Tp], .cl, _, _, _, rfl, rfl, rfl, wk_refl, (vs_c rfl vs_nil), (fun x5 => kt_n 2 (ke_tup (ka_cons (ke_call (ka_cons (ke_va 0 rfl (ka_cons (ke_vF 2 rfl (ka_nil (fc (s_takes_from net1 x5) fun v6 => ka_cons (ke_call (ka_cons (ke_va 0 rfl (ka_cons (ke_vF 2 rfl (ka_nil (fc (s_gives_to net1 x5) fun v7 => ka_nil (ft (a := (⟨v6, v7⟩ : (T2 (List Int) (List Int)))) .cl (⟨_, wk_i, rfl, wk_refl⟩))))))))))))))))))), fun row9 => ka_cons (ke_va 1 rfl (ka_nil (fc (s_cut_down row9 places2) fun v10 => rtF (ν := .any) (r := (v10 : (List Int))) (fun _ h => h))))⟩⟩)))))⟩)))))))))))
end Fl
namespace Fl
open PySem
/-- a pool -/
structure Pl (r : F2 Int Int) : Prop where
  l0 : 0 ≤ r.a
  s0 : 0 ≤ r.b
  s1 : r.b ≤ 2147483647
theorem pool_eq {s : Scr} {k : Int} (h0 : 0 ≤ k) (hk : k < 1000) : ∃ r, f_law_pool s k = .ok r ∧ Pl r := by
  have kk : k * k ≤ 1000 * 1000 := Int.mul_le_mul (by omega) (by omega) (by omega) (by omega)
  have kk0 : 0 ≤ k * k := Int.mul_nonneg h0 h0
  have key : ∀ c : Int, ∃ r, ((modI c (2147483629 : Int)).bind fun (n5 : Int) => (mulI (7919 : Int) k).bind fun (n6 : Int) => (mulI n6 k).bind fun (n7 : Int) => (mulI (48271 : Int) k).bind fun (n8 : Int) => (mulI (((n5 + n7) + n8) + (11 : Int)) (39373 : Int)).bind fun (n9 : Int) => (modI n9 (2147483647 : Int)).bind fun (n10 : Int) => (powI (10 : Int) (18 : Int)).bind fun (n11 : Int) => (if (decide (c < n11)) then (M.ok ((0 : Int)) : M Int) else M.ok c).bind fun (s12 : Int) => (mulI n10 n10).bind fun (n13 : Int) => (modI n13 (2147483629 : Int)).bind fun (n14 : Int) => M.ok ((⟨s12, (n14 + (1 : Int))⟩ : (F2 Int Int)))) = .ok r ∧ Pl r := fun c => by
    have a0 := Int.emod_nonneg c (show (2147483629 : Int) ≠ 0 by decide)
    have a1 := Int.emod_lt_of_pos c (show (0 : Int) < 2147483629 by decide)
    have q : 7919 * k * k = 7919 * (k * k) := Int.mul_assoc _ _ _
    have e1 : mulI 7919 k = .ok (7919 * k) := mulI_small (by decide) (by omega)
    have e2 : mulI (7919 * k) k = .ok (7919 * k * k) := mulI_small (by omega) (by omega)
    have e3 : mulI 48271 k = .ok (48271 * k) := mulI_small (by decide) (by omega)
    have e4 : mulI (c % 2147483629 + 7919 * k * k + 48271 * k + 11) 39373 = .ok ((c % 2147483629 + 7919 * k * k + 48271 * k + 11) * 39373) := mulI_small (by rw [q]; omega) (by decide)
    generalize hz : (c % 2147483629 + 7919 * k * k + 48271 * k + 11) * 39373 % 2147483647 = z
    have z0 : 0 ≤ z := by rw [← hz]; exact Int.emod_nonneg _ (by decide)
    have z1 : z < 2147483647 := by rw [← hz]; exact Int.emod_lt_of_pos _ (by decide)
    have e5 : mulI z z = .ok (z * z) := mulI_small (by omega) (by omega)
    have y0 := Int.emod_nonneg (z * z) (show (2147483629 : Int) ≠ 0 by decide)
    have y1 := Int.emod_lt_of_pos (z * z) (show (0 : Int) < 2147483629 by decide)
    refine ⟨⟨if c < 1000000000000000000 then 0 else c, z * z % 2147483629 + 1⟩, ?_, by dsimp only; split <;> omega, by dsimp only; omega, by dsimp only; omega⟩
    by_cases hc : c < (1000000000000000000 : Int) <;> simp [hc, modI_of, e1, e2, e3, e4, hz, e5]
  unfold f_law_pool
  by_cases hl : k < (s.l.length : Int)
  · obtain ⟨c, _, e⟩ := ix_mem (xs := s.l) h0 hl
    simp only [hl, decide_true, if_true, e, M.ok_bind]
    exact key c
  · simp only [hl, decide_false, Bool.false_eq_true, if_false, M.ok_bind]
    exact key 0
theorem take2_eq {r : F2 Int Int} {n : Int} (hr : Pl r) (h0 : 0 < n) (h1 : n < 2 ^ 60) : ∃ x r', f_take2 r n = .ok (x, r') ∧ Pl r' ∧ 0 ≤ x ∧ x < n := by
  obtain ⟨l, s⟩ := r
  obtain ⟨l0, s0, s1⟩ := hr
  dsimp only at l0 s0 s1
  unfold f_take2
  dsimp only
  by_cases hl : 0 < l
  · refine ⟨l % n, ⟨l / n, s⟩, ?_, ⟨Int.ediv_nonneg (by omega) (by omega), s0, s1⟩, Int.emod_nonneg _ (by omega), Int.emod_lt_of_pos _ h0⟩
    simp [hl, modI_of h0, divI_small h0 (by omega)]
  · have t0 := Int.emod_nonneg (s * 48271 + 12345) (show (2147483647 : Int) ≠ 0 by decide)
    have t1 := Int.emod_lt_of_pos (s * 48271 + 12345) (show (0 : Int) < 2147483647 by decide)
    have e1 : mulI s 48271 = .ok (s * 48271) := mulI_small (by omega) (by decide)
    generalize ht : (s * 48271 + 12345) % 2147483647 = t at t0 t1
    have e2 : mulI t t = .ok (t * t) := mulI_small (by omega) (by omega)
    refine ⟨_, ⟨l, t⟩, ?_, ⟨l0, t0, by dsimp only; omega⟩, Int.emod_nonneg (t * t % 2147483629 / 64) (show n ≠ 0 by omega), Int.emod_lt_of_pos _ h0⟩
    simp [hl, e1, modI_of, ht, e2, divI_small, modI_of h0]
theorem amount2_eq {r : F2 Int Int} (hr : Pl r) : ∃ q r', f_amount2 r = .ok (q, r') ∧ Pl r' ∧ 0 < q ∧ Sz q 48 := by
  obtain ⟨x, r1, e1, hr1, x0, x1⟩ := take2_eq hr (n := 6) (by decide) (by decide)
  unfold f_amount2
  simp only [e1, M.call_ok, M.ok_bind2]
  by_cases h3 : x < 3
  · obtain ⟨y, r2, e2, hr2, y0, y1⟩ := take2_eq hr1 (n := 9) (by decide) (by decide)
    have eq : toQ ⟨1 + y, 1⟩ = .ok ((1 + y : Int) : Rat) := by
      have := toQ_of (q := ((1 + y : Int) : Rat))
      rwa [Rat.num_intCast, Rat.den_intCast] at this
    refine ⟨((1 + y : Int) : Rat), r2, by simp [h3, e2, eq], hr2, by exact_mod_cast (show 0 < 1 + y by omega), sz_int (by omega) (by decide)⟩
  · by_cases h5 : x < 5
    · obtain ⟨y, r2, e2, hr2, y0, y1⟩ := take2_eq hr1 (n := 9) (by decide) (by decide)
      refine ⟨Rat.divInt (1 + y) (x - 1), r2, ?_, hr2, divInt_pos' (by omega) (by omega), sz_divInt (by omega) (by omega) (by omega)⟩
      simp [h3, h5, e2, low_eq (a := 1 + y) (b := x - 1) (by omega) (lim9 (n := 48) (by omega) (by decide))]
    · obtain ⟨y, r2, e2, hr2, y0, y1⟩ := take2_eq hr1 (n := 1000000) (by decide) (by decide)
      obtain ⟨z, r3, e3, hr3, z0, z1⟩ := take2_eq hr2 (n := 1000000) (by decide) (by decide)
      obtain ⟨w, r4, e4, hr4, w0, w1⟩ := take2_eq hr3 (n := 9) (by decide) (by decide)
      have e5 : mulI y 1000000 = .ok (y * 1000000) := mulI_small (by omega) (by decide)
      refine ⟨Rat.divInt (1 + y * 1000000 + z) (1 + w), r4, ?_, hr4, divInt_pos' (by omega) (by omega), sz_divInt (by omega) (by omega) (by omega)⟩
      simp [h3, h5, e2, e3, e4, e5, low_eq (a := 1 + y * 1000000 + z) (b := 1 + w) (by omega) (lim9 (n := 48) (by omega) (by decide))]
theorem mem_putG {l : List (Int × Rat)} {k : Int} {x : Rat} {p : Int × Rat} (h : p ∈ putG l k x) : p ∈ l ∨ p = (k, x) := by
  unfold putG at h
  split at h
  · obtain ⟨q, hq, rfl⟩ := List.mem_map.mp h
    by_cases e : q.1 = k
    · right; simp [e]
    · left; simpa [e] using hq
  · simpa using h
theorem mem_mergeG {l : List (Int × Rat)} {p : Int × Rat} (h : p ∈ mergeG l) : p ∈ l := by
  have : ∀ (l acc : List (Int × Rat)), p ∈ l.foldl (fun acc e => putG acc e.1 e.2) acc → p ∈ acc ∨ p ∈ l := by
    intro l
    induction l with
    | nil => intro acc h; exact .inl h
    | cons e l ih =>
      intro acc h
      rcases ih _ h with q | q
      · rcases mem_putG q with z | z
        · exact .inl z
        · exact .inr (by rw [z]; exact List.mem_cons_self)
      · exact .inr (List.mem_cons_of_mem _ q)
  rcases this l [] h with q | q
  · cases q
  · exact q
/-- rows put into a dict and sorted -/
theorem items_eq {m : Int} {xs : Side} (hl : xs.length < 64) (hr : ∀ p ∈ xs, (0 ≤ p.a ∧ p.a < m) ∧ 0 < p.b ∧ Sz p.b 48) : ∃ s, itemsM xs = .ok s ∧ SideOk m s ∧ s.length ≤ xs.length := by
  have nd := nodup_merge (xs.map t2p) (a := []) (by simp)
  have pm := sortG_perm (mergeG (xs.map t2p))
  have ln : (sortG (mergeG (xs.map t2p))).length ≤ xs.length := by
    rw [pm.length_eq]; have := len_merge (xs.map t2p) []; rw [List.length_map] at this; simpa [mergeG] using this
  have hm : ∀ p ∈ (sortG (mergeG (xs.map t2p))).map p2t, p ∈ xs := fun p hp => by
    obtain ⟨q, hq, rfl⟩ := List.mem_map.mp hp
    obtain ⟨t, ht, rfl⟩ := List.mem_map.mp (mem_mergeG (pm.mem_iff.mp hq))
    exact ht
  refine ⟨_, if_pos hl, ⟨?_, fun p hp => (hr p (hm p hp)).1, fun p hp => (hr p (hm p hp)).2, by simp; omega⟩, by simpa using ln⟩
  have h1 := sortG_le (mergeG (xs.map t2p))
  have h2 : ((sortG (mergeG (xs.map t2p))).map (·.1)).Nodup := (pm.map _).nodup_iff.mpr nd
  rw [List.map_map]
  show ((sortG (mergeG (xs.map t2p))).map (·.1)).Pairwise (· < ·)
  have h3 : ((sortG (mergeG (xs.map t2p))).map (·.1)).Pairwise (· ≤ ·) := List.pairwise_map.mpr h1
  exact (h3.and h2).imp fun ⟨p, q⟩ => by omega
end Fl
namespace Fl
open PySem
abbrev CRow := T2 (List Int) (List Int)
/-- whoever gives into the places takes from them -/
def Closed (rows : List CRow) (C : Int → Prop) : Prop := ∀ r ∈ rows, (∃ p ∈ r.a, C p) → ∃ p ∈ r.b, C p
def cstR (s : List Int) (r : CRow) : List Int := if (r.b.any fun p => decide (p ∈ s)) then s else s.filter fun p => !decide (p ∈ r.a)
theorem cstR_sub (s : List Int) (r : CRow) : (cstR s r).Sublist s := by
  unfold cstR; split
  · exact List.Sublist.refl _
  · exact List.filter_sublist
theorem cstR_keep {s : List Int} {r : CRow} {C : Int → Prop} (hC : (∃ p ∈ r.a, C p) → ∃ p ∈ r.b, C p) (h : ∀ p, C p → p ∈ s) : ∀ p, C p → p ∈ cstR s r := by
  intro p hp
  unfold cstR; split
  · exact h p hp
  · rename_i hn
    refine List.mem_filter.mpr ⟨h p hp, ?_⟩
    simp only [Bool.not_eq_true', decide_eq_false_iff_not]
    intro ha
    obtain ⟨q, hq, hc⟩ := hC ⟨p, ha, hp⟩
    exact hn (List.any_eq_true.mpr ⟨q, hq, by simpa using h q hc⟩)
theorem foldR : ∀ (l : List CRow) (s : List Int), (l.foldl cstR s).Sublist s ∧ ((l.foldl cstR s).length = s.length → l.foldl cstR s = s ∧ ∀ r ∈ l, cstR s r = s)
  | [], s => ⟨List.Sublist.refl _, fun _ => ⟨rfl, by simp⟩⟩
  | r :: l, s => by
    obtain ⟨h1, h2⟩ := foldR l (cstR s r)
    have h3 := cstR_sub s r
    rw [List.foldl_cons]
    refine ⟨h1.trans h3, fun e => ?_⟩
    have l1 := h1.length_le
    have l3 := h3.length_le
    have e3 : cstR s r = s := h3.eq_of_length (by omega)
    rw [e3] at h2 e ⊢
    obtain ⟨q1, q2⟩ := h2 e
    refine ⟨q1, fun x hx => ?_⟩
    rcases List.mem_cons.mp hx with rfl | hx
    · exact e3
    · exact q2 x hx
theorem foldR_keep {C : Int → Prop} : ∀ (l : List CRow) (s : List Int), (∀ r ∈ l, (∃ p ∈ r.a, C p) → ∃ p ∈ r.b, C p) → (∀ p, C p → p ∈ s) → ∀ p, C p → p ∈ l.foldl cstR s
  | [], s, _, h => h
  | r :: l, s, hC, h => foldR_keep l (cstR s r) (fun x hx => hC x (List.mem_cons_of_mem _ hx)) (cstR_keep (hC r (by simp)) h)
theorem closed_of {rows : List CRow} {s : List Int} (h : ∀ r ∈ rows, cstR s r = s) : Closed rows fun p => p ∈ s := by
  intro r hr ⟨p, hp, hs⟩
  have e := h r hr
  unfold cstR at e
  split at e
  · rename_i hb
    obtain ⟨q, hq, hc⟩ := List.any_eq_true.mp hb
    exact ⟨q, hq, by simpa using hc⟩
  · rw [← e] at hs
    have := (List.mem_filter.mp hs).2
    simp at this
    exact absurd hp this
/-- what cut_down leaves -/
structure Cut (rows : List CRow) (places res : List Int) : Prop where
  sub : res.Sublist places
  cl : Closed rows fun p => p ∈ res
  gr : ∀ C : Int → Prop, Closed rows C → (∀ p, C p → p ∈ places) → ∀ p, C p → p ∈ res
theorem cut_down_eq {rows : List CRow} {places : List Int} (hr : ∀ r ∈ rows, r.b.length ≤ 1000) (hp : places.length ≤ 1000) : ∃ res, f_cut_down rows places = .ok res ∧ Cut rows places res := by
  unfold f_cut_down
  obtain ⟨s, e, q⟩ := whM_run (ρ := List Int) (c := fun (s3 : ((List Int) × Int)) => M.ok ((!(decide ((s3.2 : Int) = (s3.1.length : Int)))) : Bool)) (f := fun (s3 : ((List Int) × Int)) => (forN (fun (x5 : (T2 (List Int) (List Int))) (s4 : (List Int)) => (f_have_some x5.b s4).call.bind fun (v6 : Bool) => (if (!v6) then ((fltM (fun (x9 : Int) => ((if (!(decide (x9 ∈ x5.a))) then M.ok (some x9) else M.ok none) : M (Option Int))) s4).bind fun (row11 : (List Int)) => M.ok row11 : M (List Int)) else M.ok s4).bind fun (s7 : (List Int)) => M.ok s7) rows s3.1).bind fun (s12 : (List Int)) => M.ok (Ctl.nx (s12, (s3.1.length : Int))))
    (I := fun s => s.1.Sublist places ∧ (∀ C : Int → Prop, Closed rows C → (∀ p, C p → p ∈ places) → ∀ p, C p → p ∈ s.1) ∧ (s.2 = (s.1.length : Int) → Closed rows fun p => p ∈ s.1))
    (μ := fun s => 2 * s.1.length + if s.2 = (s.1.length : Int) then 0 else 1) (Q := fun s => Cut rows places s.1) (fun s hs => by
      obtain ⟨h1, h2, h3⟩ := hs
      by_cases he : s.2 = (s.1.length : Int)
      · exact .inl ⟨by simp [he], h1, h3 he, h2⟩
      · have hl := h1.length_le
        have ef := forN_fold (f := fun (x5 : (T2 (List Int) (List Int))) (s4 : (List Int)) => (f_have_some x5.b s4).call.bind fun (v6 : Bool) => (if (!v6) then ((fltM (fun (x9 : Int) => ((if (!(decide (x9 ∈ x5.a))) then M.ok (some x9) else M.ok none) : M (Option Int))) s4).bind fun (row11 : (List Int)) => M.ok row11 : M (List Int)) else M.ok s4).bind fun (s7 : (List Int)) => M.ok s7) (g := cstR) (I := fun s => s.length ≤ 1000) (xs := rows) (s := s.1) (by omega) (fun r hrm z hz => by
          refine ⟨?_, Nat.le_trans (cstR_sub z r).length_le hz⟩
          simp only [have_some_eq (show r.b.length ≤ 100000 by have := hr r hrm; omega), M.call_ok, M.ok_bind]
          unfold cstR
          cases r.b.any fun p => decide (p ∈ z) with
          | true => rfl
          | false =>
            simp only [Bool.not_false, if_true]
            rw [fltM_p (fun p => !decide (p ∈ r.a)) (by omega) fun x _ => rfl]; rfl)
        obtain ⟨g1, g2⟩ := foldR rows s.1
        refine .inr ⟨by simp [he], _, by rw [ef]; rfl, ⟨g1.trans h1, fun C c1 c2 => foldR_keep rows s.1 c1 (h2 C c1 c2), fun z => ?_⟩, ?_⟩
        · dsimp only at z ⊢
          obtain ⟨q1, q2⟩ := g2 (by omega)
          rw [q1]; exact closed_of q2
        · have gl := g1.length_le
          dsimp only
          rw [if_neg he]
          split
          · omega
          · rename_i hn
            have : (rows.foldl cstR s.1).length ≠ s.1.length := fun z => hn (by rw [z])
            omega) (s := (places, -1)) ⟨List.Sublist.refl _, fun C _ h => h, fun z => by dsimp only at z; omega⟩
  exact ⟨s.1, (congrArg (fun z => M.bind z _) e).trans rfl, q⟩
def rowsDry (n : Net) : List CRow := (rg 0 n.b.length).map fun k => ⟨gvN n k, tkN n k⟩
def rowsWet (n : Net) : List CRow := (rg 0 n.b.length).map fun k => ⟨tkN n k, gvN n k⟩
theorem stays_dry_eq {n : Net} {places : List Int} (h : NetOk n) (hp : places.length ≤ 1000) : ∃ res, f_stays_dry n places = .ok res ∧ Cut (rowsDry n) places res := by
  have hd := deeds_all h
  have hln := h.ln
  obtain ⟨res, e, q⟩ := cut_down_eq (rows := rowsDry n) (places := places) (fun r hr => by
    obtain ⟨k, _, rfl⟩ := List.mem_map.mp hr; exact len_tk h k) hp
  refine ⟨res, ?_, q⟩
  unfold f_stays_dry
  rw [rgM_of (by omega) (by omega)]
  simp only [M.ok_bind]
  rw [mapM_of (h := fun k => (⟨gvN n k, tkN n k⟩ : CRow)) (by simp; omega) fun k hk => by
    have hk' := hd.rg k hk
    simp [gives_to_eq hk'.1 hk'.2 (h.dok k).r.ln, takes_from_eq hk'.1 hk'.2 (h.dok k).l.ln]]
  show (M.ok (rowsDry n)).bind _ = _
  simp only [M.ok_bind, e, M.call_ok]
theorem stays_wet_eq {n : Net} {places : List Int} (h : NetOk n) (hp : places.length ≤ 1000) : ∃ res, f_stays_wet n places = .ok res ∧ Cut (rowsWet n) places res := by
  have hd := deeds_all h
  have hln := h.ln
  obtain ⟨res, e, q⟩ := cut_down_eq (rows := rowsWet n) (places := places) (fun r hr => by
    obtain ⟨k, _, rfl⟩ := List.mem_map.mp hr; exact len_gv h k) hp
  refine ⟨res, ?_, q⟩
  unfold f_stays_wet
  rw [rgM_of (by omega) (by omega)]
  simp only [M.ok_bind]
  rw [mapM_of (h := fun k => (⟨tkN n k, gvN n k⟩ : CRow)) (by simp; omega) fun k hk => by
    have hk' := hd.rg k hk
    simp [gives_to_eq hk'.1 hk'.2 (h.dok k).r.ln, takes_from_eq hk'.1 hk'.2 (h.dok k).l.ln]]
  show (M.ok (rowsWet n)).bind _ = _
  simp only [M.ok_bind, e, M.call_ok]
end Fl
namespace Fl
open PySem
structure Bq (q : Rat) (d V : Nat) : Prop where
  dn : q.den < 2 ^ d
  lo : -(V : Rat) ≤ q
  hi : q ≤ (V : Rat)
theorem den_divInt_le {a b : Int} (hb : b ≠ 0) : (Rat.divInt a b).den ≤ b.natAbs := by
  rw [Rat.den_divInt, if_neg hb]; exact Nat.div_le_self _ _
theorem den_add_lt {p q : Rat} {d e : Nat} (hp : p.den < 2 ^ d) (hq : q.den < 2 ^ e) : (p + q).den < 2 ^ (d + e) := by
  rw [add_eq]
  refine Nat.lt_of_le_of_lt (den_divInt_le (by have := den0 p; have := den0 q; exact Int.mul_ne_zero ‹_› ‹_›)) ?_
  rw [Int.natAbs_mul, Int.natAbs_natCast, Int.natAbs_natCast]
  exact mul_lt2 hp hq
theorem Bq.mono {q : Rat} {d e V W : Nat} (h : Bq q d V) (h1 : d ≤ e) (h2 : V ≤ W) : Bq q e W := by
  have : (V : Rat) ≤ (W : Rat) := by exact_mod_cast h2
  exact ⟨Nat.lt_of_lt_of_le h.dn (Nat.pow_le_pow_right (by decide) h1), by have := h.lo; grind, by have := h.hi; grind⟩
theorem Bq.add {p q : Rat} {d e V W : Nat} (hp : Bq p d V) (hq : Bq q e W) : Bq (p + q) (d + e) (V + W) := by
  have e1 : ((V + W : Nat) : Rat) = (V : Rat) + (W : Rat) := by exact_mod_cast rfl
  refine ⟨den_add_lt hp.dn hq.dn, ?_, ?_⟩ <;> rw [e1]
  · have := hp.lo; have := hq.lo; grind
  · have := hp.hi; have := hq.hi; grind
theorem Bq.neg {q : Rat} {d V : Nat} (h : Bq q d V) : Bq (-q) d V := ⟨by have := h.dn; simpa using this, by have := h.hi; grind, by have := h.lo; grind⟩
theorem Bq.sub {p q : Rat} {d e V W : Nat} (hp : Bq p d V) (hq : Bq q e W) : Bq (p - q) (d + e) (V + W) := by
  have := hp.add hq.neg
  rwa [show p + -q = p - q by grind] at this
theorem Bq.zero : Bq 0 1 0 := ⟨by decide, by decide, by decide⟩
theorem Bq.sz {q : Rat} {d V v : Nat} (h : Bq q d V) (hv : V < 2 ^ v) : Sz q (d + v) := by
  have h1 := (Rat.le_iff ..).mp h.hi
  have h2 := (Rat.le_iff ..).mp h.lo
  have e1 : ((V : Nat) : Rat).num = (V : Int) := by simp
  have e2 : ((V : Nat) : Rat).den = 1 := by simp
  have e3 : (-((V : Nat) : Rat)).num = -(V : Int) := by simp
  have e4 : (-((V : Nat) : Rat)).den = 1 := by simp
  rw [e1, e2] at h1
  rw [e3, e4] at h2
  have h5 : q.num.natAbs ≤ V * q.den := by
    have : ((V * q.den : Nat) : Int) = (V : Int) * q.den := by push_cast; rfl
    simp only [Int.ofNat_one, Int.mul_one, Int.neg_mul] at h1 h2
    omega
  refine ⟨Nat.lt_of_le_of_lt h5 ?_, Nat.lt_of_lt_of_le h.dn (Nat.pow_le_pow_right (by decide) (by omega))⟩
  rw [Nat.add_comm, Nat.pow_add]
  exact Nat.mul_lt_mul'' hv h.dn
abbrev Stp := T2 Int Rat
abbrev Trn := T2 Int (List Stp)
def eff (n : Net) (x : Stp) (j : Int) : Rat := x.b * chg (dd n x.a) j
def tot (n : Net) : List Stp → Int → Rat
  | [], _ => 0
  | x :: S, j => eff n x j + tot n S j
def Fine (n : Net) (f : Int → Rat) (x : Stp) : Prop := ∀ p ∈ (dd n x.a).a, x.b * p.b ≤ f p.a
def FineS (n : Net) : (Int → Rat) → List Stp → Prop
  | _, [] => True
  | f, x :: S => Fine n f x ∧ FineS n (fun j => f j + eff n x j) S
structure SpOk (n : Net) (pd PV : Nat) (x : Stp) : Prop where
  a0 : 0 ≤ x.a
  a1 : x.a < n.b.length
  b0 : 0 ≤ x.b
  bb : Bq x.b pd PV
section
variable {n : Net} {f g : Int → Rat}
theorem FineS.congr : ∀ {S : List Stp} {f g : Int → Rat}, (∀ j, f j = g j) → FineS n f S → FineS n g S
  | [], _, _, _, _ => trivial
  | x :: S, f, g, h, ⟨h1, h2⟩ => ⟨fun p hp => by rw [← h]; exact h1 p hp, h2.congr fun j => by rw [h]⟩
theorem tot_append : ∀ {S T : List Stp} {j : Int}, tot n (S ++ T) j = tot n S j + tot n T j
  | [], T, j => by simp only [List.nil_append, tot]; grind
  | x :: S, T, j => by simp only [List.cons_append, tot, tot_append]; grind
theorem fineS_append : ∀ {S T : List Stp} {f : Int → Rat}, FineS n f (S ++ T) ↔ FineS n f S ∧ FineS n (fun j => f j + tot n S j) T
  | [], T, f => ⟨fun h => ⟨trivial, h.congr fun j => by simp only [tot]; grind⟩, fun h => h.2.congr fun j => by simp only [tot]; grind⟩
  | x :: S, T, f => by
    simp only [List.cons_append, FineS, fineS_append]
    refine ⟨fun ⟨h1, h2, h3⟩ => ⟨⟨h1, h2⟩, h3.congr fun j => by simp only [tot]; grind⟩, fun ⟨⟨h1, h2⟩, h3⟩ => ⟨h1, h2, h3.congr fun j => by simp only [tot]; grind⟩⟩
theorem fine_nn (h : NetOk n) {x : Stp} (hx : 0 ≤ x.b) (hf : ∀ j, 0 ≤ f j) (hF : Fine n f x) (j : Int) : x.b * amt (dd n x.a).a j ≤ f j := by
  rcases amt_cases (h.dok x.a).l.nd j with ⟨p, hp, rfl, e⟩ | ⟨_, e⟩
  · rw [e]; exact hF p hp
  · rw [e]; have := hf j; grind
theorem eff_nn (h : NetOk n) {x : Stp} (hx : 0 ≤ x.b) (hf : ∀ j, 0 ≤ f j) (hF : Fine n f x) (j : Int) : 0 ≤ f j + eff n x j := by
  have h1 := fine_nn h hx hf hF j
  have h2 : 0 ≤ x.b * amt (dd n x.a).b j := Rat.mul_nonneg hx ((h.dok x.a).r.amt_sz j).2
  unfold eff chg; grind
theorem fineS_nn (h : NetOk n) : ∀ {S : List Stp} {f : Int → Rat}, (∀ x ∈ S, 0 ≤ x.b) → (∀ j, 0 ≤ f j) → FineS n f S → ∀ j, 0 ≤ f j + tot n S j
  | [], f, _, hf, _, j => by have := hf j; simp only [tot]; grind
  | x :: S, f, hS, hf, ⟨h1, h2⟩, j => by
    have := fineS_nn h (S := S) (fun y hy => hS y (List.mem_cons_of_mem _ hy)) (eff_nn h (hS x List.mem_cons_self) hf h1) h2 j
    simp only [tot]; grind
def turnN (n : Net) : Net := ⟨n.a, n.b.map fun d => ⟨d.b, d.a⟩⟩
theorem dd_turn (x : Int) : dd (turnN n) x = ⟨(dd n x).b, (dd n x).a⟩ := by
  unfold dd turnN
  rw [List.getD_eq_getElem?_getD, List.getD_eq_getElem?_getD, List.getElem?_map]
  cases n.b[x.toNat]? <;> rfl
theorem NetOk.turn (h : NetOk n) : NetOk (turnN n) := ⟨h.m0, h.m1, by simpa [turnN] using h.ln, fun d hd => by
  obtain ⟨u, hu, rfl⟩ := List.mem_map.mp hd
  exact ⟨(h.ok u hu).r, (h.ok u hu).l⟩⟩
theorem eff_turn (x : Stp) (j : Int) : eff (turnN n) x j = -eff n x j := by unfold eff chg; rw [dd_turn]; grind
theorem tot_turn : ∀ {S : List Stp} {j : Int}, tot (turnN n) S j = -tot n S j
  | [], _ => by simp [tot]
  | x :: S, j => by simp only [tot, eff_turn, tot_turn]; grind
theorem tot_rev : ∀ {S : List Stp} {j : Int}, tot n S.reverse j = tot n S j
  | [], _ => rfl
  | x :: S, j => by rw [List.reverse_cons, tot_append, tot_rev]; simp only [tot]; grind
theorem fine_back (h : NetOk n) {x : Stp} (hx : 0 ≤ x.b) (hf : ∀ j, 0 ≤ f j) (hF : Fine n f x) : Fine (turnN n) (fun j => f j + eff n x j) x := fun p hp => by
  rw [dd_turn] at hp
  have h1 := fine_nn h hx hf hF p.a
  have h2 := amt_in (h.dok x.a).r.nd hp
  show x.b * p.b ≤ f p.a + x.b * (amt (dd n x.a).b p.a - amt (dd n x.a).a p.a)
  rw [h2]; grind
theorem fineS_back (h : NetOk n) : ∀ {S : List Stp} {f : Int → Rat}, (∀ x ∈ S, 0 ≤ x.b) → (∀ j, 0 ≤ f j) → FineS n f S → FineS (turnN n) (fun j => f j + tot n S j) S.reverse
  | [], _, _, _, _ => trivial
  | x :: S, f, hS, hf, ⟨h1, h2⟩ => by
    have hx := hS x List.mem_cons_self
    have ih := fineS_back h (S := S) (fun y hy => hS y (List.mem_cons_of_mem _ hy)) (eff_nn h hx hf h1) h2
    rw [List.reverse_cons, fineS_append]
    refine ⟨ih.congr fun j => by simp only [tot]; grind, ?_, trivial⟩
    intro p hp
    have := fine_back h hx hf h1 p hp
    show x.b * p.b ≤ f p.a + tot n (x :: S) p.a + tot (turnN n) S.reverse p.a
    rw [tot_turn, tot_rev]
    simp only [tot]
    have e : f p.a + (eff n x p.a + tot n S p.a) + -tot n S p.a = f p.a + eff n x p.a := by grind
    rw [e]; exact this
/-- a turn can be done: each of its rounds -/
def TFine (n : Net) (f : Int → Rat) (t : Trn) : Prop := ∀ l : Nat, (l : Int) < t.a → FineS n (fun j => f j + (l : Rat) * tot n t.b j) t.b
def tEnd (n : Net) (f : Int → Rat) (t : Trn) (j : Int) : Rat := f j + (t.a : Rat) * tot n t.b j
def RFine (n : Net) : (Int → Rat) → List Trn → Prop
  | _, [] => True
  | f, t :: r => TFine n f t ∧ RFine n (tEnd n f t) r
def rEnd (n : Net) : (Int → Rat) → List Trn → Int → Rat
  | f, [] => f
  | f, t :: r => rEnd n (tEnd n f t) r
def backT (t : Trn) : Trn := ⟨t.a, t.b.reverse⟩
def backR (r : List Trn) : List Trn := r.reverse.map backT
theorem TFine.congr {t : Trn} (h : ∀ j, f j = g j) (hF : TFine n f t) : TFine n g t := fun l hl => (hF l hl).congr fun j => by rw [h]
theorem rEnd_congr : ∀ {r : List Trn} {f g : Int → Rat}, (∀ j, f j = g j) → ∀ j, rEnd n f r j = rEnd n g r j
  | [], _, _, h, j => h j
  | t :: r, f, g, h, j => rEnd_congr (r := r) (fun j => by unfold tEnd; rw [h]) j
theorem RFine.congr : ∀ {r : List Trn} {f g : Int → Rat}, (∀ j, f j = g j) → RFine n f r → RFine n g r
  | [], _, _, _, _ => trivial
  | t :: r, f, g, h, ⟨h1, h2⟩ => ⟨h1.congr h, h2.congr fun j => by unfold tEnd; rw [h]⟩
theorem rEnd_append : ∀ {r s : List Trn} {f : Int → Rat} {j : Int}, rEnd n f (r ++ s) j = rEnd n (rEnd n f r) s j
  | [], _, _, _ => rfl
  | t :: r, s, f, j => rEnd_append (r := r)
theorem rFine_append : ∀ {r s : List Trn} {f : Int → Rat}, RFine n f (r ++ s) ↔ RFine n f r ∧ RFine n (rEnd n f r) s
  | [], s, f => ⟨fun h => ⟨trivial, h⟩, fun h => h.2⟩
  | t :: r, s, f => by
    simp only [List.cons_append, RFine, rFine_append, rEnd]
    exact ⟨fun ⟨h1, h2, h3⟩ => ⟨⟨h1, h2⟩, h3⟩, fun ⟨⟨h1, h2⟩, h3⟩ => ⟨h1, h2, h3⟩⟩
theorem laps_nn (h : NetOk n) {t : Trn} (hS : ∀ x ∈ t.b, 0 ≤ x.b) (hf : ∀ j, 0 ≤ f j) (hF : TFine n f t) : ∀ l : Nat, (l : Int) ≤ t.a → ∀ j, 0 ≤ f j + (l : Rat) * tot n t.b j
  | 0, _, j => by have := hf j; simp; grind
  | l + 1, hl, j => by
    have := fineS_nn h hS (laps_nn h hS hf hF l (by omega)) (hF l (by omega)) j
    have e : ((l + 1 : Nat) : Rat) = (l : Rat) + 1 := by exact_mod_cast rfl
    rw [e]; grind
theorem natR (t : Trn) (h : 0 ≤ t.a) : ((t.a.toNat : Nat) : Rat) = (t.a : Rat) := by
  have : ((t.a.toNat : Nat) : Int) = t.a := Int.toNat_of_nonneg h
  rw [← Rat.intCast_natCast, this]
theorem tEnd_nn (h : NetOk n) {t : Trn} (h0 : 0 ≤ t.a) (hS : ∀ x ∈ t.b, 0 ≤ x.b) (hf : ∀ j, 0 ≤ f j) (hF : TFine n f t) (j : Int) : 0 ≤ tEnd n f t j := by
  have := laps_nn h hS hf hF t.a.toNat (by omega) j
  rw [natR t h0] at this; exact this
theorem tFine_back (h : NetOk n) {t : Trn} (h0 : 0 ≤ t.a) (hS : ∀ x ∈ t.b, 0 ≤ x.b) (hf : ∀ j, 0 ≤ f j) (hF : TFine n f t) : TFine (turnN n) (tEnd n f t) (backT t) := fun l hl => by
  have hl : (l : Int) < t.a := hl
  obtain ⟨k, hk⟩ : ∃ k : Nat, t.a = (k : Int) + (l : Int) + 1 := ⟨(t.a - l - 1).toNat, by omega⟩
  have h1 := fineS_back h hS (laps_nn h hS hf hF k (by omega)) (hF k (by omega))
  refine h1.congr fun j => ?_
  show _ = tEnd n f t j + (l : Rat) * tot (turnN n) t.b.reverse j
  have e : (t.a : Rat) = (k : Rat) + (l : Rat) + 1 := by rw [hk]; exact_mod_cast rfl
  rw [tot_turn, tot_rev]; unfold tEnd; rw [e]; grind
theorem tEnd_back {t : Trn} (j : Int) : tEnd (turnN n) (tEnd n f t) (backT t) j = f j := by
  unfold tEnd backT
  rw [tot_turn, tot_rev]; grind
structure TOk (n : Net) (pd PV : Nat) (t : Trn) : Prop where
  a0 : 0 < t.a
  st : ∀ x ∈ t.b, SpOk n pd PV x
theorem TOk.back {pd PV : Nat} {t : Trn} (h : TOk n pd PV t) : TOk (turnN n) pd PV (backT t) := ⟨h.a0, fun x hx => by
  have := h.st x (List.mem_reverse.mp hx)
  exact ⟨this.a0, by simpa [turnN] using this.a1, this.b0, this.bb⟩⟩
end
end Fl
namespace Fl
open PySem PySem.Spec PyProof.Rows L2
end Fl
set_option synthInstance.maxHeartbeats 400000
set_option synthInstance.maxSize 4000
namespace Fl
open PySem PySem.Spec PyProof.Rows L2
open Ty (enc)
end Fl
namespace Sim
/-- the sum of f 0 .. f (k - 1) -/
def sm : Nat → (Nat → Int) → Int
  | 0, _ => 0
  | k + 1, f => sm k f + f k
theorem sm_congr {f g : Nat → Int} : ∀ {k : Nat}, (∀ i, i < k → f i = g i) → sm k f = sm k g
  | 0, _ => rfl
  | k + 1, h => by rw [sm, sm, sm_congr fun i hi => h i (by omega), h k (by omega)]
theorem sm_zero {f : Nat → Int} : ∀ {k : Nat}, (∀ i, i < k → f i = 0) → sm k f = 0
  | 0, _ => rfl
  | k + 1, h => by rw [sm, sm_zero fun i hi => h i (by omega), h k (by omega)]; rfl
theorem sm_add (f g : Nat → Int) : ∀ k, sm k (fun i => f i + g i) = sm k f + sm k g
  | 0 => rfl
  | k + 1 => by rw [sm, sm, sm, sm_add f g k]; omega
theorem sm_sub (f g : Nat → Int) : ∀ k, sm k (fun i => f i - g i) = sm k f - sm k g
  | 0 => rfl
  | k + 1 => by rw [sm, sm, sm, sm_sub f g k]; omega
theorem sm_neg (f : Nat → Int) : ∀ k, sm k (fun i => - f i) = - sm k f
  | 0 => rfl
  | k + 1 => by rw [sm, sm, sm_neg f k]; omega
theorem sm_mul (a : Int) (f : Nat → Int) : ∀ k, sm k (fun i => a * f i) = a * sm k f
  | 0 => by simp [sm]
  | k + 1 => by rw [sm, sm, sm_mul a f k, Int.mul_add]
theorem sm_mulR (a : Int) (f : Nat → Int) (k : Nat) : sm k (fun i => f i * a) = sm k f * a := by
  rw [Int.mul_comm, ← sm_mul]; exact sm_congr fun i _ => Int.mul_comm _ _
/-- one item alone -/
theorem sm_one {f : Nat → Int} {r : Nat} : ∀ {k : Nat}, r < k → (∀ i, i < k → i ≠ r → f i = 0) → sm k f = f r
  | 0, h, _ => absurd h (by omega)
  | k + 1, h, hz => by
    rw [sm]
    by_cases e : r = k
    · subst e
      rw [sm_zero fun i hi => hz i (by omega) (by omega)]; omega
    · rw [hz k (by omega) (by omega), sm_one (k := k) (by omega) fun i hi hn => hz i (by omega) hn]; omega
/-- one item taken out -/
theorem sm_out {f g : Nat → Int} {r k : Nat} (h : r < k) (e : ∀ i, i < k → i ≠ r → f i = g i) : sm k f = sm k g - g r + f r := by
  have h1 : sm k f - sm k g = f r - g r := by
    rw [← sm_sub]
    exact sm_one (f := fun i => f i - g i) h fun i hi hn => by simp [e i hi hn]
  omega
theorem sm_pos {f : Nat → Int} : ∀ {k : Nat}, 0 < sm k f → ∃ i, i < k ∧ 0 < f i
  | 0, h => by simp [sm] at h
  | k + 1, h => by
    rw [sm] at h
    by_cases e : 0 < f k
    · exact ⟨k, by omega, e⟩
    · obtain ⟨i, h1, h2⟩ := sm_pos (f := f) (k := k) (by omega)
      exact ⟨i, by omega, h2⟩
theorem sm_swap (f : Nat → Nat → Int) (l : Nat) : ∀ k, sm k (fun i => sm l (f i)) = sm l fun j => sm k fun i => f i j
  | 0 => by simp only [sm]; exact (sm_zero fun _ _ => rfl).symm
  | k + 1 => by
    rw [sm, sm_swap f l k, ← sm_add]
    rfl
theorem sm_two {f : Nat → Int} {r s k : Nat} (hr : r < k) (hs : s < k) (h : r ≠ s) (hz : ∀ i, i < k → i ≠ r → i ≠ s → f i = 0) : sm k f = f r + f s := by
  have h1 := sm_out (f := f) (g := fun i => if i = s then f s else 0) hr (fun i hi hn => by
    by_cases e : i = s
    · subst e; simp
    · simp [e, hz i hi hn e])
  rw [h1, sm_one (f := fun i => if i = s then f s else 0) hs (fun i hi hn => by simp [hn])]
  simp [h]; omega
def skip (k i : Nat) : Nat := if i < k then i else i + 1
def sg (k : Nat) : Int := if k % 2 = 0 then 1 else -1
theorem sg_succ (k : Nat) : sg (k + 1) = - sg k := by
  unfold sg
  by_cases h : k % 2 = 0
  · rw [if_pos h, if_neg (by omega)]
  · rw [if_neg h, if_pos (by omega)]; rfl
def det : Nat → (Nat → Nat → Int) → Int
  | 0, _ => 1
  | m + 1, v => sm (m + 1) fun k => sg (m + k) * (v k m * det m fun i => v (skip k i))
def rpl (v : Nat → Nat → Int) (s : Nat) (w : Nat → Int) : Nat → Nat → Int := fun i => if i = s then w else v i
theorem rpl_same {v : Nat → Nat → Int} {s : Nat} {w : Nat → Int} : rpl v s w s = w := if_pos rfl
theorem rpl_ne {v : Nat → Nat → Int} {s i : Nat} {w : Nat → Int} (h : i ≠ s) : rpl v s w i = v i := if_neg h
theorem det_congr : ∀ {m : Nat} {v u : Nat → Nat → Int}, (∀ i k, i < m → k < m → v i k = u i k) → det m v = det m u
  | 0, _, _, _ => rfl
  | m + 1, v, u, h => by
    rw [det, det]
    refine sm_congr fun k hk => ?_
    rw [h k m hk (by omega), det_congr fun i l hi hl => h (skip k i) l (by unfold skip; split <;> omega) (by omega)]
theorem skip_ne (k i : Nat) : skip k i ≠ k := by unfold skip; split <;> omega
/-- the place of s once k is skipped -/
def unskip (k s : Nat) : Nat := if s < k then s else s - 1
theorem skip_eq {k s i : Nat} (h : k ≠ s) : skip k i = s ↔ i = unskip k s := by unfold skip unskip; split <;> split <;> omega
theorem unskip_lt {k s m : Nat} (h : k ≠ s) (hs : s < m + 1) (hk : k < m + 1) : unskip k s < m := by unfold unskip; split <;> omega
theorem rpl_skip {v : Nat → Nat → Int} {k s : Nat} {w : Nat → Int} (h : k ≠ s) : (fun i => rpl v s w (skip k i)) = rpl (fun i => v (skip k i)) (unskip k s) w := by
  funext i
  unfold rpl
  by_cases e : i = unskip k s
  · rw [if_pos e, if_pos ((skip_eq h).mpr e)]
  · rw [if_neg e, if_neg fun q => e ((skip_eq h).mp q)]
/-- linear in each column -/
theorem det_lin : ∀ {m s : Nat} (v : Nat → Nat → Int) (a b : Int) (x y : Nat → Int), s < m → det m (rpl v s fun k => a * x k + b * y k) = a * det m (rpl v s x) + b * det m (rpl v s y)
  | 0, s, _, _, _, _, _, h => absurd h (by omega)
  | m + 1, s, v, a, b, x, y, h => by
    rw [det, det, det, ← sm_mul, ← sm_mul, ← sm_add]
    refine sm_congr fun k hk => ?_
    by_cases e : k = s
    · subst e
      rw [rpl_same, rpl_same, rpl_same]
      have : ∀ w, det m (fun i => rpl v k w (skip k i)) = det m fun i => v (skip k i) := fun w => det_congr fun i l _ _ => by rw [rpl_ne (skip_ne k i)]
      rw [this, this, this]
      simp only [Int.mul_add, Int.add_mul, Int.mul_assoc, Int.mul_left_comm]
    · rw [rpl_ne e, rpl_ne e, rpl_ne e, rpl_skip e, rpl_skip e, rpl_skip e, det_lin _ a b x y (unskip_lt e h hk)]
      simp only [Int.mul_add, Int.mul_assoc, Int.mul_left_comm]
theorem det_zero {m s : Nat} (v : Nat → Nat → Int) (h : s < m) : det m (rpl v s fun _ => 0) = 0 := by
  have := det_lin v 0 0 (fun _ => 0) (fun _ => 0) h
  simpa using this
/-- a column that is a sum -/
theorem det_sum {m s : Nat} (v : Nat → Nat → Int) (a : Nat → Int) (x : Nat → Nat → Int) (h : s < m) : ∀ l, det m (rpl v s fun k => sm l fun i => a i * x i k) = sm l fun i => a i * det m (rpl v s (x i))
  | 0 => by simp only [sm]; exact det_zero v h
  | l + 1 => by
    have := det_lin v 1 (a l) (fun k => sm l fun i => a i * x i k) (x l) h
    simp only [Int.one_mul] at this
    rw [sm, ← det_sum v a x h l]
    exact this
/-- two like columns side by side -/
theorem det_adj : ∀ {m s : Nat} {v : Nat → Nat → Int}, s + 1 < m → (∀ k, k < m → v s k = v (s + 1) k) → det m v = 0
  | 0, s, v, h, _ => absurd h (by omega)
  | m + 1, s, v, h, e => by
    rw [det, sm_two (r := s) (s := s + 1) (by omega) (by omega) (by omega)]
    · have h1 : det m (fun i => v (skip s i)) = det m fun i => v (skip (s + 1) i) := det_congr fun i k hi hk => by
        unfold skip
        by_cases q : i = s
        · subst q; rw [if_neg (by omega), if_pos (by omega)]; exact (e k (by omega)).symm
        · by_cases q2 : i < s
          · rw [if_pos q2, if_pos (by omega)]
          · rw [if_neg q2, if_neg (by omega)]
      rw [h1, e m (by omega), show m + (s + 1) = m + s + 1 from rfl, sg_succ, Int.neg_mul]; omega
    · intro k hk h1 h2
      have : det m (fun i => v (skip k i)) = 0 := by
        by_cases q : k < s
        · refine det_adj (s := s - 1) (by omega) fun l hl => ?_
          show v (skip k (s - 1)) l = v (skip k (s - 1 + 1)) l
          unfold skip
          rw [if_neg (by omega), if_neg (by omega), show s - 1 + 1 = s by omega]
          exact e l (by omega)
        · refine det_adj (s := s) (by omega) fun l hl => ?_
          show v (skip k s) l = v (skip k (s + 1)) l
          unfold skip
          rw [if_pos (by omega), if_pos (by omega)]
          exact e l (by omega)
      rw [this]; simp
theorem rpl_self {v : Nat → Nat → Int} {s : Nat} : rpl v s (v s) = v := by
  funext i
  unfold rpl
  split
  · rename_i e; rw [e]
  · rfl
theorem rpl_rpl {v : Nat → Nat → Int} {s : Nat} {x y : Nat → Int} : rpl (rpl v s x) s y = rpl v s y := by
  funext i
  unfold rpl
  split <;> rfl
theorem rpl_comm {v : Nat → Nat → Int} {s t : Nat} {x y : Nat → Int} (h : s ≠ t) : rpl (rpl v s x) t y = rpl (rpl v t y) s x := by
  funext i
  unfold rpl
  by_cases e : i = s
  · subst e; rw [if_pos rfl, if_neg h, if_pos rfl]
  · by_cases e2 : i = t
    · subst e2; rw [if_pos rfl, if_neg e, if_pos rfl]
    · rw [if_neg e2, if_neg e, if_neg e, if_neg e2]
/-- from like columns to columns that change their places -/
theorem swap_of {m s t : Nat} (hs : s < m) (ht : t < m) (hst : s ≠ t) (H : ∀ (v : Nat → Nat → Int) (x : Nat → Int), det m (rpl (rpl v s x) t x) = 0) (v : Nat → Nat → Int) (x y : Nat → Int) :
    det m (rpl (rpl v s x) t y) = - det m (rpl (rpl v s y) t x) := by
  have h0 := H v fun k => 1 * x k + 1 * y k
  rw [det_lin _ _ _ _ _ ht] at h0
  rw [rpl_comm hst, rpl_comm hst] at h0
  rw [det_lin _ _ _ _ _ hs, det_lin _ _ _ _ _ hs] at h0
  rw [← rpl_comm hst, ← rpl_comm hst, ← rpl_comm hst, ← rpl_comm hst, H, H] at h0
  omega
theorem det_alt0 : ∀ (d : Nat) {m s : Nat} (v : Nat → Nat → Int) (x : Nat → Int), s + d + 1 < m → det m (rpl (rpl v s x) (s + d + 1) x) = 0
  | 0, m, s, v, x, h => det_adj (s := s) h fun k _ => by rw [rpl_ne (by omega), rpl_same, show s + 0 + 1 = s + 1 from rfl, rpl_same]
  | d + 1, m, s, v, x, h => by
    -- the far one changes its place with the one ahead of it
    have hadj : ∀ (v : Nat → Nat → Int) (x : Nat → Int), det m (rpl (rpl v (s + d + 1) x) (s + d + 1 + 1) x) = 0 := fun v x => det_adj (s := s + d + 1) (by omega) fun k _ => by rw [rpl_ne (by omega), rpl_same, rpl_same]
    have h1 := swap_of (s := s + d + 1) (t := s + d + 1 + 1) (by omega) (by omega) (by omega) hadj (rpl v s x) (v (s + d + 1)) x
    have h2 : rpl (rpl v s x) (s + d + 1) (v (s + d + 1)) = rpl v s x := by
      have := rpl_self (v := rpl v s x) (s := s + d + 1)
      rw [rpl_ne (by omega)] at this
      exact this
    rw [h2] at h1
    rw [show s + (d + 1) + 1 = s + d + 1 + 1 by omega, h1]
    rw [show rpl (rpl (rpl v s x) (s + d + 1) x) (s + d + 1 + 1) (v (s + d + 1)) = rpl (rpl (rpl v (s + d + 1 + 1) (v (s + d + 1))) s x) (s + d + 1) x by
      rw [rpl_comm (s := s + d + 1) (by omega), rpl_comm (s := s) (t := s + d + 1 + 1) (by omega)]]
    rw [det_alt0 d _ x (by omega)]; rfl
/-- two like columns -/
theorem det_alt {m s t : Nat} {v : Nat → Nat → Int} (hs : s < m) (ht : t < m) (hst : s ≠ t) (e : ∀ k, k < m → v s k = v t k) : det m v = 0 := by
  have key : ∀ s t, s < t → t < m → (∀ k, k < m → v s k = v t k) → det m v = 0 := fun s t h ht e => by
    have := det_alt0 (t - s - 1) (m := m) (s := s) v (v t) (by omega)
    rw [show s + (t - s - 1) + 1 = t by omega] at this
    rw [← this]
    refine det_congr fun i k hi hk => ?_
    by_cases q : i = t
    · subst q; rw [rpl_same]
    · rw [rpl_ne q]
      by_cases q2 : i = s
      · subst q2; rw [rpl_same]; exact e k hk
      · rw [rpl_ne q2]
  rcases Nat.lt_or_ge s t with h | h
  · exact key s t h ht e
  · exact key t s (by omega) hs fun k hk => (e k hk).symm
theorem det_swap {m s t : Nat} (hs : s < m) (ht : t < m) (hst : s ≠ t) (v : Nat → Nat → Int) (x y : Nat → Int) : det m (rpl (rpl v s x) t y) = - det m (rpl (rpl v s y) t x) :=
  swap_of hs ht hst (fun v x => det_alt hs ht hst fun k _ => by rw [rpl_ne hst, rpl_same, rpl_same]) v x y
theorem det_unit : ∀ {m : Nat} {v : Nat → Nat → Int}, (∀ i k, i < m → k < m → v i k = if i = k then 1 else 0) → det m v = 1
  | 0, _, _ => rfl
  | m + 1, v, h => by
    rw [det, sm_one (r := m) (by omega)]
    · rw [h m m (by omega) (by omega), if_pos rfl, det_unit (m := m) fun i k hi hk => by
        show v (skip m i) k = _
        unfold skip
        rw [if_pos hi]
        exact h i k (by omega) (by omega)]
      unfold sg
      rw [if_pos (by omega)]; rfl
    · intro i hi hn
      rw [h i m hi (by omega), if_neg hn]; simp
def pr : Nat → (Nat → Int) → Int
  | 0, _ => 1
  | k + 1, f => pr k f * f k
def l1 (m : Nat) (w : Nat → Int) : Int := sm m fun k => ((w k).natAbs : Int)
end Sim
namespace Sim
/-- 1 at the spares, 0 elsewhere -/
def gam (n m j : Nat) : Int := if n ≤ j ∧ j < n + m then 1 else 0
structure Inv (m n : Nat) (T : Nat → Nat → Int) (R : Nat → Nat → Int) (c : Nat → Int) (y : Int) (b : Nat → Nat) : Prop where
  pos : 0 < y
  lt : ∀ i, i < m → b i < n + m
  unit : ∀ i k, i < m → k < m → R i (b k) = if i = k then y else 0
  row : ∀ i j, i < m → j ≤ n + m → R i j = sm m fun k => R i (n + k) * T k j
  cost : ∀ j, j ≤ n + m → c j = y * gam n m j - sm m fun i => gam n m (b i) * R i j
  nn : ∀ i, i < m → 0 ≤ R i (n + m)
  col : ∀ k j, k < m → j ≤ n + m → y * T k j = sm m fun i => R i j * T k (b i)
  dt : ∀ i j, i < m → j ≤ n + m → R i j = det m (rpl (fun l k => T k (b l)) i fun k => T k j)
  db : y = det m fun l k => T k (b l)
/-- what the first tableau is -/
structure Ini (m n : Nat) (T : Nat → Nat → Int) : Prop where
  unit : ∀ k l, k < m → l < m → T k (n + l) = if k = l then 1 else 0
  nn : ∀ k, k < m → 0 ≤ T k (n + m)
section
variable {m n : Nat} {T R : Nat → Nat → Int} {c : Nat → Int} {y : Int} {b : Nat → Nat}
theorem sm_pick {f : Nat → Int} {r k : Nat} (h : r < k) : (sm k fun i => (if i = r then 1 else 0) * f i) = f r := by
  rw [sm_one h fun i hi hn => by rw [if_neg hn]; simp]
  simp
theorem Ini.inv (h : Ini m n T) : Inv m n T T (fun j => gam n m j - sm m fun i => T i j) 1 (fun i => n + i) := by
  have hu : (det m fun l k => T k (n + l)) = 1 := det_unit fun i k hi hk => by
    rw [h.unit k i hk hi]
    by_cases e : k = i
    · rw [if_pos e, if_pos e.symm]
    · rw [if_neg e, if_neg (Ne.symm e)]
  refine ⟨by omega, fun i hi => by omega, fun i k hi hk => h.unit i k hi hk, fun i j hi hj => ?_, fun j hj => ?_, h.nn, fun k j hk hj => ?_, fun i j hi hj => ?_, hu.symm⟩
  · rw [sm_congr (g := fun k => (if k = i then 1 else 0) * T k j) fun k hk => ?_, sm_pick hi]
    rw [h.unit i k hi hk]
    by_cases e : i = k
    · rw [if_pos e, if_pos e.symm]
    · rw [if_neg e, if_neg (Ne.symm e)]
  · rw [Int.one_mul]
    congr 1
    refine sm_congr fun i hi => ?_
    unfold gam
    rw [if_pos (by omega), Int.one_mul]
  · rw [Int.one_mul, sm_congr (g := fun i => (if i = k then 1 else 0) * T i j) fun i hi => ?_, sm_pick hk]
    rw [h.unit k i hk hi, Int.mul_comm]
    by_cases e : k = i
    · rw [if_pos e, if_pos e.symm]
    · rw [if_neg e, if_neg (Ne.symm e)]
  · have e1 : (fun k => T k j) = fun k => if k < m then sm m fun l => T l j * T k (n + l) else T k j := by
      funext k
      split
      · rename_i hk
        rw [sm_congr (g := fun l => (if l = k then 1 else 0) * T l j) fun l hl => ?_, sm_pick hk]
        rw [h.unit k l hk hl, Int.mul_comm]
        by_cases e : k = l
        · rw [if_pos e, if_pos e.symm]
        · rw [if_neg e, if_neg (Ne.symm e)]
      · rfl
    have e2 : det m (rpl (fun l k => T k (n + l)) i fun k => T k j) = det m (rpl (fun l k => T k (n + l)) i fun k => sm m fun l => T l j * T k (n + l)) := det_congr fun a k ha hk => by
      unfold rpl
      split
      · rw [e1]; simp [hk]
      · rfl
    rw [e2, det_sum _ (fun l => T l j) (fun l k => T k (n + l)) hi m, sm_one hi]
    · have := rpl_self (v := fun l k => T k (n + l)) (s := i)
      rw [this, hu]; omega
    · intro l hl hn
      rw [det_alt (s := i) (t := l) hi hl (Ne.symm hn) fun k hk => by rw [rpl_same, rpl_ne hn]]; simp
/-- by the columns of the base -/
theorem Inv.exp (v : Inv m n T R c y b) {w : Nat → Nat → Int} {i j : Nat} (hi : i < m) (hj : j ≤ n + m) : y * det m (rpl w i fun k => T k j) = sm m fun l => R l j * det m (rpl w i fun k => T k (b l)) := by
  have h1 := det_lin w y 0 (fun k => T k j) (fun _ => 0) hi
  simp only [Int.zero_mul, Int.add_zero] at h1
  rw [← h1, ← det_sum w (fun l => R l j) (fun l k => T k (b l)) hi m]
  refine det_congr fun a k ha hk => ?_
  unfold rpl
  split
  · exact v.col k j hk hj
  · rfl
def updB (b : Nat → Nat) (r s : Nat) : Nat → Nat := fun i => if i = r then s else b i
/-- the columns behind -/
theorem cols_upd {r s : Nat} : (fun l k => T k (updB b r s l)) = rpl (fun l k => T k (b l)) r fun k => T k s := by
  funext l k
  unfold updB rpl
  split <;> rfl
/-- an item behind, by its determinant -/
theorem Inv.item (v : Inv m n T R c y b) {r s i j : Nat} (hr : r < m) (hi : i < m) (hir : i ≠ r) (hs : s ≤ n + m) (hj : j ≤ n + m) :
    y * det m (rpl (fun l k => T k (updB b r s l)) i fun k => T k j) = R i j * R r s - R i s * R r j := by
  rw [v.exp hi hj, sm_two hi hr hir]
  · have h1 : det m (rpl (fun l k => T k (updB b r s l)) i fun k => T k (b i)) = R r s := by
      rw [v.dt r s hr hs, cols_upd]
      congr 1
      have : (fun k => T k (b i)) = rpl (fun l k => T k (b l)) r (fun k => T k s) i := by rw [rpl_ne hir]
      rw [this, rpl_self]
    have h2 : det m (rpl (fun l k => T k (updB b r s l)) i fun k => T k (b r)) = - R i s := by
      rw [v.dt i s hi hs, cols_upd, det_swap hr hi (Ne.symm hir)]
      congr 2
      have : (fun k => T k (b r)) = (fun l k => T k (b l)) r := rfl
      rw [this, rpl_self]
    rw [h1, h2, Int.mul_neg, Int.mul_comm (R r j)]; omega
  · intro l hl h1 h2
    rw [det_alt (s := i) (t := l) hi hl (Ne.symm h1) fun k hk => by rw [rpl_same, rpl_ne h1]; unfold updB; rw [if_neg h2]]; simp
def newR (R : Nat → Nat → Int) (y : Int) (r s : Nat) : Nat → Nat → Int := fun i j => if i = r then R r j else (R i j * R r s - R i s * R r j).fdiv y
def newC (R : Nat → Nat → Int) (c : Nat → Int) (y : Int) (r s : Nat) : Nat → Int := fun j => (c j * R r s - c s * R r j).fdiv y
theorem Inv.newR_det (v : Inv m n T R c y b) {r s i j : Nat} (hr : r < m) (hi : i < m) (hs : s ≤ n + m) (hj : j ≤ n + m) : newR R y r s i j = det m (rpl (fun l k => T k (updB b r s l)) i fun k => T k j) := by
  have hy : y ≠ 0 := by have := v.pos; omega
  unfold newR
  by_cases e : i = r
  · subst e
    rw [if_pos rfl, v.dt i j hi hj, cols_upd, rpl_rpl]
  · rw [if_neg e, ← v.item hr hi e hs hj, Int.mul_fdiv_cancel_left _ hy]
theorem Inv.newR_mul (v : Inv m n T R c y b) {r s i j : Nat} (hr : r < m) (hi : i < m) (hir : i ≠ r) (hs : s ≤ n + m) (hj : j ≤ n + m) : y * newR R y r s i j = R i j * R r s - R i s * R r j := by
  rw [v.newR_det hr hi hs hj, v.item hr hi hir hs hj]
theorem canc {y a b : Int} (h : y ≠ 0) (e : y * a = y * b) : a = b := Int.eq_of_mul_eq_mul_left h e
theorem Inv.newC_aux (v : Inv m n T R c y b) {r s j : Nat} (hr : r < m) (hs : s < n) (hj : j ≤ n + m) : c j * R r s - c s * R r j = y * (R r s * gam n m j - sm m fun i => gam n m (updB b r s i) * newR R y r s i j) := by
  have hy : y ≠ 0 := by have := v.pos; omega
  have hgs : gam n m s = 0 := by unfold gam; rw [if_neg (by omega)]
  have h1 : (sm m fun i => gam n m (updB b r s i) * newR R y r s i j) * y = sm m fun i => gam n m (b i) * (R i j * R r s - R i s * R r j) := by
    rw [← sm_mulR]
    refine sm_congr fun i hi => ?_
    unfold updB
    by_cases e : i = r
    · subst e
      rw [if_pos rfl, hgs, Int.mul_comm (R i j)]; simp
    · rw [if_neg e, Int.mul_assoc, Int.mul_comm _ y, v.newR_mul hr hi e (by omega) hj]
  have h2 : (sm m fun i => gam n m (b i) * (R i j * R r s - R i s * R r j)) = (sm m fun i => gam n m (b i) * R i j) * R r s - (sm m fun i => gam n m (b i) * R i s) * R r j := by
    rw [← sm_mulR, ← sm_mulR, ← sm_sub]
    refine sm_congr fun i _ => ?_
    rw [Int.mul_sub, Int.mul_assoc, Int.mul_assoc]
  rw [v.cost j hj, v.cost s (by omega), hgs, Int.mul_sub y, Int.mul_comm y (sm m _), h1, h2]
  simp only [Int.sub_mul, Int.mul_zero, Int.zero_sub, Int.neg_mul, Int.mul_assoc, Int.mul_comm (gam n m j)]
  omega
theorem Inv.newC_eq (v : Inv m n T R c y b) {r s j : Nat} (hr : r < m) (hs : s < n) (hj : j ≤ n + m) : newC R c y r s j = R r s * gam n m j - sm m fun i => gam n m (updB b r s i) * newR R y r s i j := by
  have hy : y ≠ 0 := by have := v.pos; omega
  unfold newC
  rw [v.newC_aux hr hs hj, Int.mul_fdiv_cancel_left _ hy]
theorem Inv.newC_mul (v : Inv m n T R c y b) {r s j : Nat} (hr : r < m) (hs : s < n) (hj : j ≤ n + m) : y * newC R c y r s j = c j * R r s - c s * R r j := by
  rw [v.newC_eq hr hs hj, v.newC_aux hr hs hj]
/-- an exchange by a row that puts the column to nought first -/
theorem Inv.step (v : Inv m n T R c y b) {r s : Nat} (hr : r < m) (hs : s < n) (hp : 0 < R r s) (hm : ∀ i, i < m → 0 < R i s → R r (n + m) * R i s ≤ R i (n + m) * R r s) : Inv m n T (newR R y r s) (newC R c y r s) (R r s) (updB b r s) := by
  have hy : y ≠ 0 := by have := v.pos; omega
  have hsm : s ≤ n + m := by omega
  have hrow : ∀ j, newR R y r s r j = R r j := fun j => if_pos rfl
  refine ⟨hp, fun i hi => ?_, fun i k hi hk => ?_, fun i j hi hj => ?_, fun j hj => v.newC_eq hr hs hj, fun i hi => ?_, fun k j hk hj => ?_, fun i j hi hj => v.newR_det hr hi hsm hj, ?_⟩
  · unfold updB; split
    · omega
    · exact v.lt i hi
  · by_cases ek : k = r
    · subst ek
      have hb : updB b k s k = s := if_pos rfl
      rw [hb]
      by_cases ei : i = k
      · subst ei; rw [hrow, if_pos rfl]
      · rw [if_neg ei]
        refine canc hy ?_
        rw [v.newR_mul hr hi ei hsm hsm]; simp [Int.sub_self]
    · have hb : updB b r s k = b k := if_neg ek
      have hbk : b k ≤ n + m := by have := v.lt k hk; omega
      rw [hb]
      by_cases ei : i = r
      · subst ei; rw [hrow, v.unit i k hi hk, if_neg (Ne.symm ek), if_neg (Ne.symm ek)]
      · refine canc hy ?_
        rw [v.newR_mul hr hi ei hsm hbk, v.unit i k hi hk, v.unit r k hr hk, if_neg (Ne.symm ek)]
        split <;> simp
  · by_cases ei : i = r
    · subst ei
      rw [hrow, v.row i j hi hj]
      exact sm_congr fun k _ => by rw [hrow]
    · refine canc hy ?_
      rw [v.newR_mul hr hi ei hsm hj, ← sm_mul, v.row i j hi hj, v.row r j hr hj, ← sm_mulR, ← sm_mul, ← sm_sub]
      refine sm_congr fun k hk => ?_
      have q := v.newR_mul (j := n + k) hr hi ei hsm (by omega)
      have q2 : y * (newR R y r s i (n + k) * T k j) = (y * newR R y r s i (n + k)) * T k j := (Int.mul_assoc _ _ _).symm
      rw [q2, q, Int.sub_mul]
      simp only [Int.mul_assoc, Int.mul_comm, Int.mul_left_comm]
  · by_cases ei : i = r
    · subst ei; rw [hrow]; exact v.nn i hi
    · have h1 := v.newR_mul hr hi ei hsm (Nat.le_refl (n + m))
      have h2 : 0 ≤ R i (n + m) * R r s - R i s * R r (n + m) := by
        by_cases q : 0 < R i s
        · have := hm i hi q
          rw [Int.mul_comm (R i s)]; omega
        · have h3 : 0 ≤ R i (n + m) * R r s := Int.mul_nonneg (v.nn i hi) (by omega)
          have h4 : R i s * R r (n + m) ≤ 0 := Int.mul_nonpos_of_nonpos_of_nonneg (by omega) (v.nn r hr)
          omega
      rw [← h1] at h2
      have h5 := v.pos
      by_cases q : 0 ≤ newR R y r s i (n + m)
      · exact q
      · have := Int.mul_neg_of_pos_of_neg h5 (by omega : newR R y r s i (n + m) < 0)
        omega
  · refine canc hy ?_
    have h1 := v.col k j hk hj
    have h2 := v.col k s hk hsm
    have e1 : y * (R r s * T k j) = R r s * sm m fun i => R i j * T k (b i) := by rw [← h1, Int.mul_left_comm]
    rw [e1, ← sm_mul]
    have e2 : (sm m fun i => y * (newR R y r s i j * T k (updB b r s i))) = (sm m fun i => (R i j * R r s - R i s * R r j) * T k (b i)) - 0 + y * (R r j * T k s) := by
      rw [sm_out (g := fun i => (R i j * R r s - R i s * R r j) * T k (b i)) hr fun i hi hn => ?_]
      · rw [hrow]
        have : updB b r s r = s := if_pos rfl
        rw [this]
        simp only [Int.mul_comm (R r j) (R r s), Int.sub_self, Int.zero_mul]
      · have : updB b r s i = b i := if_neg hn
        rw [this, ← Int.mul_assoc, v.newR_mul hr hi hn hsm hj]
    rw [← sm_mul, e2]
    have e3 : y * (R r j * T k s) = R r j * sm m fun i => R i s * T k (b i) := by rw [← h2, Int.mul_left_comm]
    rw [e3, ← sm_mul, Int.sub_zero, ← sm_add]
    refine sm_congr fun i _ => ?_
    rw [Int.sub_mul]
    have : R i s * R r j * T k (b i) = R r j * (R i s * T k (b i)) := by simp only [Int.mul_assoc, Int.mul_comm, Int.mul_left_comm]
    rw [this]
    have : R i j * R r s * T k (b i) = R r s * (R i j * T k (b i)) := by simp only [Int.mul_assoc, Int.mul_comm, Int.mul_left_comm]
    rw [this]; omega
  · rw [v.dt r s hr hsm, cols_upd]
end
end Sim
namespace Sim
section
variable {m n : Nat} {T R : Nat → Nat → Int} {c : Nat → Int} {y : Int} {b : Nat → Nat}
theorem gam_low {n m j : Nat} (h : j < n) : gam n m j = 0 := by unfold gam; rw [if_neg (by omega)]
theorem Inv.inj (v : Inv m n T R c y b) {i k : Nat} (hi : i < m) (hk : k < m) (h : b i = b k) : i = k := by
  have h1 := v.unit i i hi hi
  rw [if_pos rfl, h, v.unit i k hi hk] at h1
  have := v.pos
  by_cases e : i = k
  · exact e
  · rw [if_neg e] at h1; omega
theorem Inv.cost0 (v : Inv m n T R c y b) {k : Nat} (hk : k < m) : c (b k) = 0 := by
  rw [v.cost (b k) (by have := v.lt k hk; omega), sm_one hk]
  · rw [v.unit k k hk hk, if_pos rfl, Int.mul_comm]; omega
  · intro i hi hn; rw [v.unit i k hi hk, if_neg hn]; simp
/-- weights by the spares' costs -/
theorem Inv.weights (v : Inv m n T R c y b) {j : Nat} (hj : j ≤ n + m) : c j = y * gam n m j + sm m fun k => (c (n + k) - y) * T k j := by
  have h1 : (sm m fun k => (c (n + k) - y) * T k j) = - sm m fun i => gam n m (b i) * R i j := by
    rw [sm_congr (g := fun k => - sm m fun i => gam n m (b i) * (R i (n + k) * T k j)) fun k hk => ?_, sm_neg, sm_swap]
    · congr 1
      refine sm_congr fun i hi => ?_
      rw [sm_mul, ← v.row i j hi hj]
    · have : gam n m (n + k) = 1 := by unfold gam; rw [if_pos (by omega)]
      rw [v.cost (n + k) (by omega), this, ← sm_neg]
      have e : y * 1 - (sm m fun i => gam n m (b i) * R i (n + k)) - y = sm m fun i => - (gam n m (b i) * R i (n + k)) := by rw [sm_neg]; omega
      rw [e, ← sm_mulR]
      exact sm_congr fun i _ => by rw [Int.neg_mul, Int.mul_assoc]
  rw [h1, v.cost j hj]; omega
/-- the columns of the base are independent: costs of one base along a direction of another one -/
theorem Inv.dir {R' : Nat → Nat → Int} {c' : Nat → Int} {y' : Int} {b' : Nat → Nat} (v : Inv m n T R c y b) (v' : Inv m n T R' c' y' b') {s : Nat} (hs : s < n) : c' s * y - (sm m fun i => c' (b i) * R i s) = y' * c s := by
  have h1 : (sm m fun i => c' (b i) * R i s) = y' * (sm m fun i => gam n m (b i) * R i s) + sm m fun k => (c' (n + k) - y') * (y * T k s) := by
    have e1 : (sm m fun k => (c' (n + k) - y') * (y * T k s)) = sm m fun i => (sm m fun k => (c' (n + k) - y') * T k (b i)) * R i s := by
      rw [sm_congr (g := fun k => sm m fun i => (c' (n + k) - y') * T k (b i) * R i s) fun k hk => ?_, sm_swap]
      · exact sm_congr fun i _ => by rw [← sm_mulR]
      · rw [v.col k s hk (by omega), ← sm_mul]
        refine sm_congr fun i _ => ?_
        rw [Int.mul_comm (R i s), Int.mul_assoc]
    rw [e1, ← sm_mul, ← sm_add]
    refine sm_congr fun i hi => ?_
    rw [v'.weights (by have := v.lt i hi; omega), Int.add_mul, Int.mul_assoc]
  have h2 : (sm m fun k => (c' (n + k) - y') * (y * T k s)) = (sm m fun k => (c' (n + k) - y') * T k s) * y := by
    rw [← sm_mulR]
    refine sm_congr fun k _ => ?_
    rw [Int.mul_comm y, Int.mul_assoc]
  have h3 := v'.weights (j := s) (by omega)
  have h4 := v.cost s (by omega)
  rw [gam_low hs] at h3 h4
  rw [h1, h2, h4, h3]
  simp only [Int.mul_zero, Int.zero_add, Int.zero_sub, Int.mul_neg]
  omega
end
theorem pigeon : ∀ (B : Nat) (f : Nat → Nat), (∀ t, f t < B) → ∃ t1 t2, t1 < t2 ∧ f t1 = f t2
  | 0, f, h => absurd (h 0) (by omega)
  | B + 1, f, h => by
    by_cases e : ∃ t0, f t0 = B
    · obtain ⟨t0, e0⟩ := e
      by_cases e2 : ∃ t, t0 < t ∧ f t = B
      · obtain ⟨t, h1, h2⟩ := e2
        exact ⟨t0, t, h1, by omega⟩
      · obtain ⟨t1, t2, h1, h2⟩ := pigeon B (fun t => f (t + (t0 + 1))) fun t => by
          have := h (t + (t0 + 1))
          by_cases q : f (t + (t0 + 1)) = B
          · exact absurd ⟨_, by omega, q⟩ e2
          · omega
        exact ⟨_, _, by omega, h2⟩
    · exact pigeon B f fun t => by
        have := h t
        by_cases q : f t = B
        · exact absurd ⟨t, q⟩ e
        · omega
def code (q : Nat) (b : Nat → Nat) : Nat → Nat
  | 0 => 0
  | k + 1 => code q b k * q + b k
theorem code_lt {q : Nat} {b : Nat → Nat} : ∀ {k : Nat}, (∀ i, i < k → b i < q) → code q b k < q ^ k
  | 0, _ => by simp [code]
  | k + 1, h => by
    have h1 := code_lt (b := b) (q := q) (k := k) fun i hi => h i (by omega)
    have h2 := h k (by omega)
    rw [code, Nat.pow_succ]
    have : (code q b k + 1) * q ≤ q ^ k * q := Nat.mul_le_mul_right q h1
    rw [Nat.add_mul] at this; omega
theorem code_inj {q : Nat} {b b' : Nat → Nat} : ∀ {k : Nat}, (∀ i, i < k → b i < q) → (∀ i, i < k → b' i < q) → code q b k = code q b' k → ∀ i, i < k → b i = b' i
  | 0, _, _, _, i, hi => absurd hi (by omega)
  | k + 1, h, h', e, i, hi => by
    rw [code, code] at e
    have h1 := h k (by omega)
    have h2 := h' k (by omega)
    have hq : 0 < q := by omega
    have e1 := congrArg (· / q) e
    have e2 := congrArg (· % q) e
    simp only [Nat.mul_comm _ q, Nat.mul_add_div hq, Nat.div_eq_of_lt h1, Nat.div_eq_of_lt h2, Nat.mul_add_mod, Nat.mod_eq_of_lt h1, Nat.mod_eq_of_lt h2, Nat.add_zero] at e1 e2
    by_cases q2 : i = k
    · subst q2; exact e2
    · exact code_inj (fun i hi => h i (by omega)) (fun i hi => h' i (by omega)) e1 i (by omega)
structure Run (m n : Nat) (T : Nat → Nat → Int) (R : Nat → Nat → Nat → Int) (c : Nat → Nat → Int) (y : Nat → Int) (b : Nat → Nat → Nat) (r s : Nat → Nat) : Prop where
  inv : ∀ t, Inv m n T (R t) (c t) (y t) (b t)
  en : ∀ t, s t < n
  en0 : ∀ t, c t (s t) < 0
  enl : ∀ t j, j < s t → 0 ≤ c t j
  le : ∀ t, r t < m
  le0 : ∀ t, 0 < R t (r t) (s t)
  lel : ∀ t i, i < m → 0 < R t i (s t) → R t (r t) (n + m) * R t i (s t) < R t i (n + m) * R t (r t) (s t) ∨ (R t (r t) (n + m) * R t i (s t) = R t i (n + m) * R t (r t) (s t) ∧ b t (r t) ≤ b t i)
  nR : ∀ t i j, i < m → j ≤ n + m → R (t + 1) i j = newR (R t) (y t) (r t) (s t) i j
  nc : ∀ t j, j ≤ n + m → c (t + 1) j = newC (R t) (c t) (y t) (r t) (s t) j
  ny : ∀ t, y (t + 1) = R t (r t) (s t)
  nb : ∀ t i, i < m → b (t + 1) i = updB (b t) (r t) (s t) i
theorem max_of (s : Nat → Nat) (t1 : Nat) : ∀ d, ∃ te, t1 ≤ te ∧ te < t1 + d + 1 ∧ ∀ t, t1 ≤ t → t < t1 + d + 1 → s t ≤ s te
  | 0 => ⟨t1, by omega, by omega, fun t h1 h2 => by rw [show t = t1 by omega]; omega⟩
  | d + 1 => by
    obtain ⟨te, h1, h2, h3⟩ := max_of s t1 d
    by_cases e : s (t1 + d + 1) ≤ s te
    · exact ⟨te, h1, by omega, fun t a b => by
        by_cases q : t = t1 + d + 1
        · rw [q]; exact e
        · exact h3 t a (by omega)⟩
    · exact ⟨t1 + d + 1, by omega, by omega, fun t a b => by
        by_cases q : t = t1 + d + 1
        · rw [q]; omega
        · have := h3 t a (by omega); omega⟩
section
variable {m n : Nat} {T : Nat → Nat → Int} {R : Nat → Nat → Nat → Int} {c : Nat → Nat → Int} {y : Nat → Int} {b : Nat → Nat → Nat} {r s : Nat → Nat}
theorem Run.mono1 (u : Run m n T R c y b r s) (t : Nat) : c t (n + m) * y (t + 1) ≤ c (t + 1) (n + m) * y t ∧ (c t (n + m) * y (t + 1) = c (t + 1) (n + m) * y t → R t (r t) (n + m) = 0) := by
  have h1 := (u.inv t).newC_mul (u.le t) (u.en t) (Nat.le_refl (n + m))
  rw [u.nc t _ (Nat.le_refl _), u.ny t, Int.mul_comm _ (y t), h1]
  have h2 : 0 ≤ - (c t (s t)) * R t (r t) (n + m) := Int.mul_nonneg (by have := u.en0 t; omega) ((u.inv t).nn _ (u.le t))
  rw [Int.neg_mul] at h2
  refine ⟨by omega, fun e => ?_⟩
  have h3 : c t (s t) * R t (r t) (n + m) = 0 := by omega
  rcases Int.mul_eq_zero.mp h3 with h4 | h4
  · have := u.en0 t; omega
  · exact h4
theorem frac_trans {a b c d e f : Int} (hb : 0 < b) (hd : 0 < d) (hf : 0 < f) (h1 : a * d ≤ c * b) (h2 : c * f ≤ e * d) : a * f ≤ e * b := by
  have h3 := Int.mul_le_mul_of_nonneg_right h1 (Int.le_of_lt hf)
  have h4 := Int.mul_le_mul_of_nonneg_right h2 (Int.le_of_lt hb)
  have h5 : (a * f) * d ≤ (e * b) * d := by
    have e1 : a * d * f = a * f * d := Int.mul_right_comm _ _ _
    have e2 : c * b * f = c * f * b := Int.mul_right_comm _ _ _
    have e3 : e * d * b = e * b * d := Int.mul_right_comm _ _ _
    omega
  exact Int.le_of_mul_le_mul_right h5 hd
theorem Run.mono (u : Run m n T R c y b r s) (t : Nat) : ∀ d, c t (n + m) * y (t + d) ≤ c (t + d) (n + m) * y t
  | 0 => Int.le_refl _
  | d + 1 => frac_trans (u.inv t).pos (u.inv (t + d)).pos (u.inv (t + d + 1)).pos (u.mono t d) (u.mono1 (t + d)).1
theorem Run.no (u : Run m n T R c y b r s) : False := by
  -- two times with one base
  obtain ⟨t1, t2, ht, hcode⟩ := pigeon _ (fun t => code (n + m) (b t) m) fun t => code_lt (u.inv t).lt
  have hb : ∀ i, i < m → b t1 i = b t2 i := code_inj (u.inv t1).lt (u.inv t2).lt hcode
  have hy : y t1 = y t2 := by
    rw [(u.inv t1).db, (u.inv t2).db]
    exact det_congr fun i k hi hk => by rw [hb i hi]
  have hR : ∀ i j, i < m → j ≤ n + m → R t1 i j = R t2 i j := fun i j hi hj => by
    rw [(u.inv t1).dt i j hi hj, (u.inv t2).dt i j hi hj]
    refine det_congr fun a k ha hk => ?_
    unfold rpl
    split
    · rfl
    · show T k (b t1 a) = T k (b t2 a)
      rw [hb a ha]
  have hc : ∀ j, j ≤ n + m → c t1 j = c t2 j := fun j hj => by
    rw [(u.inv t1).cost j hj, (u.inv t2).cost j hj, hy]
    congr 1
    exact sm_congr fun i hi => by rw [hb i hi, hR i j hi hj]
  -- nothing is gained between them
  have hz : c t1 (n + m) * y t2 = c t2 (n + m) * y t1 := by rw [hc _ (Nat.le_refl _), hy]
  have deg : ∀ t, t1 ≤ t → t < t2 → R t (r t) (n + m) = 0 := fun t h1 h2 => by
    refine (u.mono1 t).2 ?_
    have a1 := u.mono t1 (t - t1)
    rw [show t1 + (t - t1) = t by omega] at a1
    have a2 := u.mono (t + 1) (t2 - (t + 1))
    rw [show t + 1 + (t2 - (t + 1)) = t2 by omega] at a2
    have a3 : c (t + 1) (n + m) * y t1 ≤ c t1 (n + m) * y (t + 1) := by rw [hy, hc _ (Nat.le_refl _)]; exact a2
    have a4 := frac_trans (u.inv (t + 1)).pos (u.inv t1).pos (u.inv t).pos a3 a1
    have a5 := (u.mono1 t).1
    omega
  have zero1 : ∀ t i, t1 ≤ t → t < t2 → i < m → (R t i (n + m) = 0 ↔ R (t + 1) i (n + m) = 0) := fun t i h1 h2 hi => by
    rw [u.nR t i _ hi (Nat.le_refl _)]
    by_cases e : i = r t
    · subst e
      have : newR (R t) (y t) (r t) (s t) (r t) (n + m) = R t (r t) (n + m) := if_pos rfl
      rw [this]
    · have q := (u.inv t).newR_mul (u.le t) hi e (by have := u.en t; omega : s t ≤ n + m) (Nat.le_refl (n + m))
      rw [deg t h1 h2, Int.mul_zero, Int.sub_zero] at q
      have p1 := (u.inv t).pos
      have p2 := u.le0 t
      constructor
      · intro h0
        rw [h0, Int.zero_mul] at q
        rcases Int.mul_eq_zero.mp q with h3 | h3
        · omega
        · exact h3
      · intro h0
        rw [h0, Int.mul_zero] at q
        rcases Int.mul_eq_zero.mp q.symm with h3 | h3
        · exact h3
        · omega
  have zero : ∀ i, i < m → ∀ d, t1 + d ≤ t2 → (R t1 i (n + m) = 0 ↔ R (t1 + d) i (n + m) = 0) := fun i hi d => by
    induction d with
    | zero => intro _; exact Iff.rfl
    | succ d ih => intro h; exact (ih (by omega)).trans (zero1 (t1 + d) i (by omega) (by omega) hi)
  -- columns that stay out, columns that stay in
  have out : ∀ j, (∀ t, t1 ≤ t → t < t2 → s t ≠ j) → ∀ t t', t1 ≤ t → t ≤ t2 → t1 ≤ t' → t' ≤ t2 → (∀ i, i < m → b t i ≠ j) → ∀ i, i < m → b t' i ≠ j := by
    intro j hs
    have up : ∀ t d, t1 ≤ t → t + d ≤ t2 → (∀ i, i < m → b t i ≠ j) → ∀ i, i < m → b (t + d) i ≠ j := fun t d h1 => by
      induction d with
      | zero => intro _ h i hi; exact h i hi
      | succ d ih =>
        intro h2 h i hi
        rw [show t + (d + 1) = t + d + 1 from rfl, u.nb (t + d) i hi]
        unfold updB
        split
        · exact hs (t + d) (by omega) (by omega)
        · exact ih (by omega) h i hi
    intro t t' h1 h2 h3 h4 h
    have a1 := up t (t2 - t) h1 (by omega) h
    rw [show t + (t2 - t) = t2 by omega] at a1
    have a2 : ∀ i, i < m → b t1 i ≠ j := fun i hi => by rw [hb i hi]; exact a1 i hi
    have a3 := up t1 (t' - t1) (Nat.le_refl _) (by omega) a2
    rwa [show t1 + (t' - t1) = t' by omega] at a3
  have inn : ∀ j, (∀ t, t1 ≤ t → t < t2 → b t (r t) ≠ j) → ∀ t t', t1 ≤ t → t ≤ t2 → t1 ≤ t' → t' ≤ t2 → (∃ i, i < m ∧ b t i = j) → ∃ i, i < m ∧ b t' i = j := by
    intro j hs
    have up : ∀ t d, t1 ≤ t → t + d ≤ t2 → (∃ i, i < m ∧ b t i = j) → ∃ i, i < m ∧ b (t + d) i = j := fun t d h1 => by
      induction d with
      | zero => intro _ h; exact h
      | succ d ih =>
        intro h2 h
        obtain ⟨i, hi, e⟩ := ih (by omega) h
        refine ⟨i, hi, ?_⟩
        rw [show t + (d + 1) = t + d + 1 from rfl, u.nb (t + d) i hi]
        unfold updB
        rw [if_neg fun q => hs (t + d) (by omega) (by omega) (by rw [← q]; exact e)]
        exact e
    intro t t' h1 h2 h3 h4 h
    have a1 := up t (t2 - t) h1 (by omega) h
    rw [show t + (t2 - t) = t2 by omega] at a1
    obtain ⟨i, hi, e⟩ := a1
    have a3 := up t1 (t' - t1) (Nat.le_refl _) (by omega) ⟨i, hi, by rw [hb i hi]; exact e⟩
    rwa [show t1 + (t' - t1) = t' by omega] at a3
  have still : ∀ i, i < m → (∀ t, t1 ≤ t → t < t2 → r t ≠ i) → ∀ t, t1 ≤ t → t ≤ t2 → b t i = b t1 i := fun i hi hr t h1 h2 => by
    have : ∀ d, t1 + d ≤ t2 → b (t1 + d) i = b t1 i := fun d => by
      induction d with
      | zero => intro _; rfl
      | succ d ih =>
        intro h
        rw [show t1 + (d + 1) = t1 + d + 1 from rfl, u.nb (t1 + d) i hi]
        unfold updB
        rw [if_neg fun q => hr (t1 + d) (by omega) (by omega) q.symm]
        exact ih (by omega)
    have := this (t - t1) (by omega)
    rwa [show t1 + (t - t1) = t by omega] at this
  -- the greatest column that comes in
  obtain ⟨te, e1, e2, e3⟩ := max_of s t1 (t2 - t1 - 1)
  rw [show t1 + (t2 - t1 - 1) + 1 = t2 by omega] at e2 e3
  have nbe : ∀ i, i < m → b te i ≠ s te := fun i hi h => by
    have := (u.inv te).cost0 hi
    rw [h] at this
    have := u.en0 te
    omega
  -- it goes out, too
  have hl : ∃ tl, t1 ≤ tl ∧ tl < t2 ∧ b tl (r tl) = s te := by
    apply Classical.byContradiction
    intro hn
    have := inn (s te) (fun t h1 h2 h3 => hn ⟨t, h1, h2, h3⟩) (te + 1) te (by omega) (by omega) e1 (by omega) ⟨r te, u.le te, by rw [u.nb te _ (u.le te)]; exact if_pos rfl⟩
    obtain ⟨i, hi, h⟩ := this
    exact nbe i hi h
  obtain ⟨tl, l1, l2, l3⟩ := hl
  have hsq : s tl < s te := by
    have h1 := e3 tl l1 l2
    by_cases q : s tl = s te
    · have h2 := (u.inv tl).cost0 (u.le tl)
      rw [l3, ← q] at h2
      have := u.en0 tl
      omega
    · omega
  have hd := (u.inv tl).dir (u.inv te) (u.en tl)
  have hcs := u.enl te (s tl) hsq
  have hpos : 0 < sm m fun i => c te (b tl i) * R tl i (s tl) := by
    have h1 : 0 ≤ c te (s tl) * y tl := Int.mul_nonneg hcs (Int.le_of_lt (u.inv tl).pos)
    have h2 : y te * c tl (s tl) < 0 := Int.mul_neg_of_pos_of_neg (u.inv te).pos (u.en0 tl)
    omega
  obtain ⟨i, hi, hprod⟩ := sm_pos hpos
  -- the column of this row stands out at te
  have hne : ∀ k, k < m → b te k ≠ b tl i := fun k hk h => by
    have := (u.inv te).cost0 hk
    rw [h] at this
    rw [this] at hprod
    simp at hprod
  have hent : ∃ t, t1 ≤ t ∧ t < t2 ∧ s t = b tl i := by
    apply Classical.byContradiction
    intro hn
    exact out (b tl i) (fun t h1 h2 h3 => hn ⟨t, h1, h2, h3⟩) te tl e1 (by omega) l1 (by omega) hne i hi rfl
  obtain ⟨tn, n1, n2, n3⟩ := hent
  have hjq := e3 tn n1 n2
  rw [n3] at hjq
  have hrow : ∃ t, t1 ≤ t ∧ t < t2 ∧ r t = i := by
    apply Classical.byContradiction
    intro hn
    have h1 := still i hi (fun t h1 h2 h3 => hn ⟨t, h1, h2, h3⟩)
    exact hne i hi ((h1 te e1 (by omega)).trans (h1 tl l1 (by omega)).symm)
  obtain ⟨tr, r1, r2, r3⟩ := hrow
  have hz1 := deg tr r1 r2
  rw [r3] at hz1
  have z1 := zero i hi (tr - t1) (by omega)
  rw [show t1 + (tr - t1) = tr by omega] at z1
  have z2 := zero i hi (tl - t1) (by omega)
  rw [show t1 + (tl - t1) = tl by omega] at z2
  have hzi : R tl i (n + m) = 0 := z2.mp (z1.mpr hz1)
  by_cases hq : b tl i = s te
  · have : i = r tl := (u.inv tl).inj hi (u.le tl) (by rw [hq, l3])
    subst this
    rw [l3] at hprod
    have := Int.mul_neg_of_neg_of_pos (u.en0 te) (u.le0 tl)
    omega
  · have hc0 := u.enl te (b tl i) (by omega)
    have hRi : 0 < R tl i (s tl) := by
      by_cases q : 0 < R tl i (s tl)
      · exact q
      · have := Int.mul_nonpos_of_nonneg_of_nonpos hc0 (by omega : R tl i (s tl) ≤ 0)
        omega
    rcases u.lel tl i hi hRi with h | ⟨_, h⟩
    · rw [hzi, deg tl l1 l2] at h
      simp at h
    · rw [l3] at h; omega
end
end Sim
namespace Fl
open PySem PySem.Spec PyProof.Rows L2 Sim
end Fl
namespace Fl
open PySem PySem.Spec PyProof.Rows L2 Sim
end Fl
namespace Fl
open PySem PySem.Spec PyProof.Rows L2 Sim
/-- a common denominator, and a bound of what is above it -/
def Cd (D Z : Nat) (q : Rat) : Prop := q.den ∣ D ∧ q.num.natAbs * (D / q.den) ≤ Z
def zq (q : Rat) (s : Int) : Int := q.num * (s / (q.den : Int))
theorem zq_cast {q : Rat} {s : Int} (h : (q.den : Int) ∣ s) : ((zq q s : Int) : Rat) = q * (s : Rat) := by
  obtain ⟨t, rfl⟩ := h
  unfold zq
  have hd : (q.den : Int) ≠ 0 := by have := q.den_nz; omega
  rw [Int.mul_ediv_cancel_left _ hd]
  have hd' : ((q.den : Int) : Rat) ≠ 0 := by exact_mod_cast hd
  have h3 : q = (q.num : Rat) / ((q.den : Int) : Rat) := by
    rw [← Rat.divInt_eq_div, Rat.num_divInt_den]
  have h2 : q * ((q.den : Int) : Rat) = (q.num : Rat) := (congrArg (· * ((q.den : Int) : Rat)) h3).trans (Rat.div_mul_cancel hd')
  rw [Rat.intCast_mul, Rat.intCast_mul, ← h2, Rat.mul_assoc]
theorem zq_abs {q : Rat} {s : Int} {D Z : Nat} (h : Cd D Z q) (h1 : (q.den : Int) ∣ s) (h2 : s.natAbs ∣ D) (h3 : 0 < D) : (zq q s).natAbs ≤ Z := by
  obtain ⟨t, rfl⟩ := h1
  unfold zq
  have hd : (q.den : Int) ≠ 0 := by have := q.den_nz; omega
  rw [Int.mul_ediv_cancel_left _ hd, Int.natAbs_mul]
  refine Nat.le_trans (Nat.mul_le_mul_left _ ?_) h.2
  rw [Int.natAbs_mul, Int.natAbs_natCast] at h2
  rw [Nat.le_div_iff_mul_le (Nat.pos_of_ne_zero q.den_nz), Nat.mul_comm]
  exact Nat.le_of_dvd h3 h2
/-- sums of fractions -/
def qs : Nat → (Nat → Rat) → Rat
  | 0, _ => 0
  | k + 1, f => qs k f + f k
theorem qs_congr {f g : Nat → Rat} : ∀ {k : Nat}, (∀ i, i < k → f i = g i) → qs k f = qs k g
  | 0, _ => rfl
  | k + 1, h => by rw [qs, qs, qs_congr fun i hi => h i (by omega), h k (by omega)]
theorem qs_mul (a : Rat) (f : Nat → Rat) : ∀ k, (qs k fun i => a * f i) = a * qs k f
  | 0 => by simp [qs]
  | k + 1 => by rw [qs, qs, qs_mul a f k]; grind
theorem qs_add (f g : Nat → Rat) : ∀ k, (qs k fun i => f i + g i) = qs k f + qs k g
  | 0 => (Rat.add_zero 0).symm
  | k + 1 => by rw [qs, qs, qs, qs_add f g k]; grind
theorem qs_zero {f : Nat → Rat} : ∀ {k : Nat}, (∀ i, i < k → f i = 0) → qs k f = 0
  | 0, _ => rfl
  | k + 1, h => by rw [qs, qs_zero fun i hi => h i (by omega), h k (by omega)]; grind
end Fl
namespace Fl
open PySem PySem.Spec PyProof.Rows L2 Sim
def TT (m n : Nat) (A : Int → Int → Rat) (G : Int → Rat) (sc : Int → Int) (k j : Nat) : Int := if j < n then zq (A j k) (sc k) else if j < n + m then (if n + k = j then 1 else 0) else zq (G k) (sc k)
section
variable {m n D Z : Nat} {A : Int → Int → Rat} {G : Int → Rat} {sc : Int → Int}
theorem Cd.num {q : Rat} (h : Cd D Z q) (hD : 0 < D) : q.num.natAbs ≤ Z := by
  refine Nat.le_trans ?_ h.2
  have : 0 < D / q.den := Nat.div_pos (Nat.le_of_dvd hD h.1) (Nat.pos_of_ne_zero q.den_nz)
  exact Nat.le_mul_of_pos_right _ this
end
end Fl
namespace Fl
open PySem PySem.Spec PyProof.Rows L2 Sim
end Fl
namespace Fl
open PySem PySem.Spec PyProof.Rows L2 Sim
open Ty (enc)
theorem Cd.mono {D Z Y : Nat} {q : Rat} (h : Cd D Z q) (hz : Z ≤ Y) : Cd D Y q := ⟨h.1, Nat.le_trans h.2 hz⟩
end Fl
set_option synthInstance.maxHeartbeats 400000
set_option synthInstance.maxSize 4000
namespace Fl
open PySem PySem.Spec PyProof.Rows L2
open Ty (enc)
end Fl
namespace Fl
open PySem PySem.Spec PyProof.Rows L2 Sim
section
variable {D E Z W : Nat} {p q : Rat}
theorem Cd_iff (hD : 0 < D) : Cd D Z q ↔ ∃ a : Int, a.natAbs ≤ Z ∧ q * ((D : Int) : Rat) = (a : Rat) := by
  constructor
  · intro h
    refine ⟨zq q D, zq_abs h (by exact_mod_cast h.1) (by simp) hD, (zq_cast (by exact_mod_cast h.1)).symm⟩
  · rintro ⟨a, h1, h2⟩
    have e : q.num * (D : Int) = a * (q.den : Int) := by
      have h3 := zq_cast (q := q) (s := (q.den : Int)) (Int.dvd_refl _)
      have h4 : zq q (q.den : Int) = q.num := by unfold zq; rw [Int.ediv_self (by have := q.den_nz; omega), Int.mul_one]
      rw [h4] at h3
      have h5 : (q.num : Rat) * ((D : Int) : Rat) = (a : Rat) * ((q.den : Int) : Rat) := by
        rw [h3, ← h2]; grind
      exact_mod_cast h5
    have hd : q.den ∣ D := by
      have h6 : (q.den : Int) ∣ q.num * (D : Int) := ⟨a, by rw [e, Int.mul_comm]⟩
      have h7 : Int.gcd q.num (q.den : Int) = 1 := gcd_q q
      have h9 : q.den ∣ q.num.natAbs * D := by
        have := Int.natAbs_dvd_natAbs.mpr h6
        rwa [Int.natAbs_mul, Int.natAbs_natCast, Int.natAbs_natCast] at this
      exact Nat.Coprime.dvd_of_dvd_mul_left (Nat.Coprime.symm q.reduced) h9
    refine ⟨hd, ?_⟩
    obtain ⟨t, rfl⟩ := hd
    have hp : 0 < q.den := Nat.pos_of_ne_zero q.den_nz
    rw [Nat.mul_div_cancel_left _ hp]
    have e2 : (q.den : Int) * (q.num * (t : Int)) = (q.den : Int) * a := by push_cast at e; grind
    have e3 := Int.eq_of_mul_eq_mul_left (by omega) e2
    rw [← e3, Int.natAbs_mul] at h1
    simpa using h1
theorem Cd.zero : Cd D Z 0 := ⟨by simp, by simp⟩
theorem Cd.neg (h : Cd D Z q) : Cd D Z (-q) := ⟨by simpa using h.1, by simpa using h.2⟩
theorem Cd.add (hD : 0 < D) (h : Cd D Z p) (g : Cd D W q) : Cd D (Z + W) (p + q) := by
  obtain ⟨a, h1, h2⟩ := (Cd_iff hD).mp h
  obtain ⟨b, g1, g2⟩ := (Cd_iff hD).mp g
  exact (Cd_iff hD).mpr ⟨a + b, by omega, by rw [Rat.intCast_add]; grind⟩
theorem Cd.sz (h : Cd D Z q) (hD : 0 < D) {n : Nat} (hd : D < 2 ^ n) (hz : Z < 2 ^ n) : Sz q n := by
  have h1 : 0 < D / q.den := Nat.div_pos (Nat.le_of_dvd hD h.1) (Nat.pos_of_ne_zero q.den_nz)
  exact ⟨Nat.lt_of_le_of_lt (Nat.le_trans (Nat.le_mul_of_pos_right _ h1) h.2) hz, Nat.lt_of_le_of_lt (Nat.le_of_dvd hD h.1) hd⟩
theorem Cd.qs (hD : 0 < D) {f : Nat → Rat} : ∀ {k : Nat}, (∀ i, i < k → Cd D Z (f i)) → Cd D (k * Z) (qs k f)
  | 0, _ => by simpa [Fl.qs] using Cd.zero
  | k + 1, h => by
    rw [Fl.qs, Nat.add_mul, Nat.one_mul]
    exact Cd.add hD (Cd.qs hD fun i hi => h i (by omega)) (h k (by omega))
end
/-- sizes under which sums of products of two kinds of fractions are reckoned -/
structure Two (k D Z E W N : Nat) : Prop where
  D0 : 0 < D
  E0 : 0 < E
  d : D * E < 2 ^ N
  z : k * (Z * W) < 2 ^ N
  Z : Z < 2 ^ N
  W : W < 2 ^ N
  N : N ≤ 195000
section
variable {k D Z E W N : Nat}
theorem Two.sm (h : Two k D Z E W N) {f : Nat → Rat} {j : Nat} (hj : j ≤ k) (hq : ∀ i : Nat, i < j → Cd (D * E) (Z * W) (f i)) : Sz (qs j f) N :=
  (Cd.qs (Nat.mul_pos h.D0 h.E0) hq).sz (Nat.mul_pos h.D0 h.E0) h.d (Nat.lt_of_le_of_lt (Nat.mul_le_mul_right _ hj) h.z)
end
end Fl
namespace Fl
open PySem PySem.Spec PyProof.Rows L2 Sim
section
variable {m n D Z E W N : Nat} {A : Int → Int → Rat} {G f w : Int → Rat}
/-- shares and weights bar each other -/
theorem qs_swap {g : Nat → Nat → Rat} : ∀ {m n : Nat}, (qs m fun i => qs n fun j => g i j) = qs n fun j => qs m fun i => g i j
  | 0, n => by rw [qs]; exact (qs_zero fun _ _ => rfl).symm
  | m + 1, n => by rw [qs, qs_swap, ← qs_add]; rfl
theorem qs_nonneg {f : Nat → Rat} : ∀ {k : Nat}, (∀ i, i < k → 0 ≤ f i) → 0 ≤ qs k f
  | 0, _ => Rat.le_refl
  | k + 1, h => by
    have h1 : 0 ≤ qs k f := qs_nonneg fun i hi => h i (by omega)
    have h2 := h k (by omega)
    rw [qs]; grind
end
end Fl
namespace Fl
open PySem PySem.Spec PyProof.Rows L2 Sim
variable {m D Z : Nat}
theorem getD_in {α : Type} {xs : List α} {d : α} {k : Nat} (h : k < xs.length) : xs.getD k d = xs[k] := by
  simp [List.getD_eq_getElem?_getD, h]
theorem cd_int {a : Int} (hD : 0 < D) (h : a.natAbs * D ≤ Z) : Cd D Z (a : Rat) := (Cd_iff hD).mpr ⟨a * D, by rw [Int.natAbs_mul]; simpa using h, by rw [Rat.intCast_mul]⟩
end Fl
namespace Fl
open PySem PySem.Spec PyProof.Rows L2 Sim
theorem cut_take {α : Type} {xs : List α} {k : Nat} : cut xs none (some (k : Int)) = xs.take k := by
  have h0 : HT.sIx xs.length 0 none = 0 := rfl
  have h1 : HT.sIx xs.length xs.length (some (k : Int)) = min k xs.length := by
    have : ¬ (k : Int) < 0 := by omega
    simp [HT.sIx, this]
  unfold cut
  rw [h0, h1]
  simp [List.take_eq_take_iff]
end Fl
set_option synthInstance.maxHeartbeats 400000
set_option synthInstance.maxSize 4000
namespace Fl
open PySem PySem.Spec PyProof.Rows L2
open Ty (enc)
end Fl
namespace Fl
open PySem PySem.Spec PyProof.Rows L2 Sim
/-- a denominator that divides N, and a bound -/
def Dq (N V : Nat) (q : Rat) : Prop := Cd N (V * N) q
section
variable {N V W B : Nat} {p q : Rat}
theorem Dq.mono (h : Dq N V q) (hv : V ≤ W) : Dq N W q := Cd.mono h (Nat.mul_le_mul_right _ hv)
theorem Dq.zero : Dq N V 0 := Cd.zero
theorem Dq.neg (h : Dq N V q) : Dq N V (-q) := Cd.neg h
theorem Dq.add (h0 : 0 < N) (h : Dq N V p) (g : Dq N W q) : Dq N (V + W) (p + q) := by
  unfold Dq; rw [Nat.add_mul]; exact Cd.add h0 h g
theorem Dq.sub (h0 : 0 < N) (h : Dq N V p) (g : Dq N W q) : Dq N (V + W) (p - q) := by
  rw [show p - q = p + -q by grind]; exact h.add h0 g.neg
theorem Dq.sz (h : Dq N V q) (h0 : 0 < N) (hV : 0 < V) (hB : V * N < 2 ^ B) : Sz q B :=
  Cd.sz h h0 (Nat.lt_of_le_of_lt (Nat.le_mul_of_pos_left _ hV) hB) hB
end
/-- what is reckoned with has room -/
structure Rom (N V : Nat) : Prop where
  N0 : 0 < N
  V0 : 0 < V
  sz : V * N < 2 ^ 190000
section
variable {N V : Nat} {p q : Rat} {n : Net}
/-- a step of which all amounts are so -/
structure SpD (n : Net) (N V : Nat) (x : Stp) : Prop where
  a0 : 0 ≤ x.a
  a1 : x.a < n.b.length
  b0 : 0 ≤ x.b
  bb : Dq N V x.b
  tk : ∀ p ∈ (dd n x.a).a, Dq N V (x.b * p.b)
  gv : ∀ p ∈ (dd n x.a).b, Dq N V (x.b * p.b)
theorem SpD.mono {W : Nat} {x : Stp} (hx : SpD n N V x) (h : V ≤ W) : SpD n N W x := ⟨hx.a0, hx.a1, hx.b0, hx.bb.mono h, fun p hp => (hx.tk p hp).mono h, fun p hp => (hx.gv p hp).mono h⟩
end
end Fl
namespace Fl
open PySem PySem.Spec PyProof.Rows L2 Sim
/-- all amounts of the net have one denominator -/
structure NetD (n : Net) (AD : Nat) : Prop where
  D0 : 0 < AD
  sz : AD < 2 ^ 250
  l : ∀ x, ∀ p ∈ (dd n x).a, p.b.den ∣ AD
  r : ∀ x, ∀ p ∈ (dd n x).b, p.b.den ∣ AD
theorem NetD.turn {n : Net} {AD : Nat} (h : NetD n AD) : NetD (turnN n) AD := ⟨h.D0, h.sz, fun x p hp => by rw [dd_turn] at hp; exact h.r x p hp, fun x p hp => by rw [dd_turn] at hp; exact h.l x p hp⟩
end Fl
namespace Fl
open PySem PySem.Spec PyProof.Rows L2 Sim
end Fl
namespace Fl
open PySem PySem.Spec PyProof.Rows L2 Sim
/-- how much of a deed steps do -/
def prt : List Stp → Int → Rat
  | [], _ => 0
  | x :: S, d => (if x.a = d then x.b else 0) + prt S d
def prR : List Trn → Int → Rat
  | [], _ => 0
  | t :: r, d => (t.a : Rat) * prt t.b d + prR r d
section
variable {n : Net} {N V AD : Nat}
def lst (b e : Int → Rat) (j : Int) : Rat := if e j < b j then e j else b j
end
end Fl
namespace Fl
open PySem PySem.Spec PyProof.Rows L2 Sim
end Fl
namespace Fl
open PySem PySem.Spec PyProof.Rows L2 Sim
section
variable {n : Net} {N V AD : Nat}
theorem len_turn : (turnN n).b.length = n.b.length := by simp [turnN]
theorem qs_pos_ex {g : Nat → Rat} : ∀ {k : Nat}, 0 < qs k g → ∃ i, i < k ∧ 0 < g i
  | 0, h => absurd h (by rw [qs]; exact Rat.lt_irrefl)
  | k + 1, h => by
    by_cases c : 0 < g k
    · exact ⟨k, by omega, c⟩
    · rw [qs] at h
      obtain ⟨i, hi, q⟩ := qs_pos_ex (g := g) (k := k) (by grind)
      exact ⟨i, by omega, q⟩
def deedsOf (K : Int) (p : Int → Rat) : List Int := (rg 0 K).filter fun d => decide (0 < p d)
theorem mem_deeds {K : Int} {p : Int → Rat} {d : Int} : d ∈ deedsOf K p ↔ (0 ≤ d ∧ d < K) ∧ 0 < p d := by simp [deedsOf, mem_rg]
end
end Fl
namespace Fl
open PySem PySem.Spec PyProof.Rows L2 Sim
end Fl
namespace Fl
open PySem PySem.Spec PyProof.Rows L2 Sim
/-- a turn, all of whose numbers have one denominator -/
structure TrOk (n : Net) (N v : Nat) (t : Trn) : Prop where
  a1 : 1 ≤ t.a
  aN : t.a.toNat ≤ N
  ne : t.b ≠ []
  nd : (t.b.map T2.a).Nodup
  ln : t.b.length ≤ 100
  ps : ∀ x ∈ t.b, 0 < x.b
  st : ∀ x ∈ t.b, SpD n N v x
  sb : ∀ x ∈ t.b, Dq N v ((t.a : Rat) * x.b)
  tk : ∀ x ∈ t.b, ∀ p ∈ (dd n x.a).a, Dq N v ((t.a : Rat) * (x.b * p.b))
  gv : ∀ x ∈ t.b, ∀ p ∈ (dd n x.a).b, Dq N v ((t.a : Rat) * (x.b * p.b))
structure RunOk (n : Net) (f e p : Int → Rat) (N v : Nat) (r : List Trn) : Prop where
  len : r.length ≤ 3
  tr : ∀ t ∈ r, TrOk n N v t
  fn : RFine n f r
  en : ∀ j, rEnd n f r j = e j
  pt : ∀ d : Nat, d < n.b.length → prR r d = p d
end Fl
namespace Fl
open PySem PySem.Spec PyProof.Rows L2 Sim
section
variable {n : Net} {N V AD : Nat}
/-- what a run needs room for -/
def roomF (n : Net) (E0 : Nat) : Nat := E0 * 2 ^ (299 * n.b.length)
def roomN (n : Net) (E0 AD P : Nat) : Nat := roomF n E0 * roomF n E0 * AD * ((n.b.length * (P * 2 ^ 48) + 1) * roomF n E0)
end
end Fl
namespace Fl
open PySem PySem.Spec PyProof.Rows L2 Sim
end Fl
namespace Fl
open PySem PySem.Spec PyProof.Rows L2 Sim
section
variable {n : Net} {AD E0 E1 U P V : Nat} {f p : Int → Rat} {s1 s2 : WS} {S1 S2 : List Stp} {Ea Eb : Nat}
theorem turn_turn (n : Net) : turnN (turnN n) = n := by
  obtain ⟨m, ds⟩ := n
  unfold turnN
  simp [List.map_map, Function.comp_def]
theorem prt_append : ∀ {S T : List Stp} {d : Int}, prt (S ++ T) d = prt S d + prt T d
  | [], T, d => by simp only [List.nil_append, prt]; grind
  | x :: S, T, d => by simp only [List.cons_append, prt, prt_append]; grind
theorem prt_rev : ∀ {S : List Stp} {d : Int}, prt S.reverse d = prt S d
  | [], _ => rfl
  | x :: S, d => by rw [List.reverse_cons, prt_append, prt_rev]; simp only [prt]; grind
end
end Fl
namespace Fl
open PySem PySem.Spec PyProof.Rows L2 Sim
end Fl
namespace Fl
open PySem PySem.Spec PyProof.Rows L2 Sim
end Fl
namespace Fl
open PySem PySem.Spec PyProof.Rows L2 Sim
end Fl
namespace Fl
open PySem PySem.Spec PyProof.Rows L2 Sim
end Fl
namespace Fl
open PySem PySem.Spec PyProof.Rows L2 Sim
end Fl
namespace Fl
open PySem PySem.Spec PyProof.Rows L2 Sim
def AM : Nat := 693000000
theorem AM0 : 0 < AM := by decide
theorem AMlt : AM < 2 ^ 250 := by decide
theorem netD_of {n : Net} (h : ∀ d ∈ n.b, (∀ p ∈ d.a, p.b.den ∣ AM) ∧ ∀ p ∈ d.b, p.b.den ∣ AM) : NetD n AM := by
  have key : ∀ x, (∀ p ∈ (dd n x).a, p.b.den ∣ AM) ∧ ∀ p ∈ (dd n x).b, p.b.den ∣ AM := fun x => by
    unfold dd
    by_cases hx : x.toNat < n.b.length
    · rw [getD_in hx]; exact h _ (List.getElem_mem hx)
    · rw [List.getD_eq_getElem?_getD, List.getElem?_eq_none (by omega)]
      simp
  exact ⟨AM0, AMlt, fun x => (key x).1, fun x => (key x).2⟩
end Fl
namespace Fl
open PySem PySem.Spec PyProof.Rows L2
open Ty (enc)
/-- things that are compared where their texts are in order -/
class EqP (α : Type) [Ty α] where
  py : α → PyData
  to : ∀ a, toPy (enc a) = some (py a)
  dep : Nat
  hdep : ∀ a, (py a).depth ≤ dep
  ok : α → Bool
  lay : ∀ a, ok a = true → (py a).canLay0 = true
  eq : ∀ a b, PyData.eqv (py a) (py b) = true ↔ a = b
section
variable {α γ δ : Type} [Ty α] [Ty γ] [Ty δ] {μ ν : Md}
instance (priority := low) [EqT α] : EqP α := ⟨EqT.py, EqT.to, EqT.dep α, EqT.hdep, fun _ => true, fun a _ => EqT.lay a, EqT.eq⟩
instance : EqP Str := ⟨.str, fun _ => rfl, 0, fun _ => by simp [PyData.depth], fun x => (PyData.str x).canLay0, fun _ h => h, fun a b => by simp [PyData.eqv]⟩
instance [EqP α] [EqP γ] : EqP (T2 α γ) := ⟨fun t => .tuple [EqP.py t.a, EqP.py t.b], fun t => by simp [enc, toPy, toPyL, EqP.to], 1 + max (EqP.dep α) (EqP.dep γ), fun t => by
    have := EqP.hdep t.a; have := EqP.hdep t.b
    simp [PyData.depth, PyData.depthAll]; omega, fun t => EqP.ok t.a && EqP.ok t.b, fun t h => by
    have := Bool.and_eq_true_iff.mp h
    simp [PyData.canLay0, PyData.canLayAll0, EqP.lay _ this.1, EqP.lay _ this.2], fun a b => by
    cases a; cases b; simp [PyData.eqv, PyData.eqvAll, EqP.eq]⟩
instance [EqP α] [EqP γ] [EqP δ] : EqP (T3 α γ δ) := ⟨fun t => .tuple [EqP.py t.a, EqP.py t.b, EqP.py t.c], fun t => by simp [enc, toPy, toPyL, EqP.to], 1 + max (EqP.dep α) (max (EqP.dep γ) (EqP.dep δ)), fun t => by
    have := EqP.hdep t.a; have := EqP.hdep t.b; have := EqP.hdep t.c
    simp [PyData.depth, PyData.depthAll]; omega, fun t => EqP.ok t.a && (EqP.ok t.b && EqP.ok t.c), fun t h => by
    have := Bool.and_eq_true_iff.mp h
    have h2 := Bool.and_eq_true_iff.mp this.2
    simp [PyData.canLay0, PyData.canLayAll0, EqP.lay _ this.1, EqP.lay _ h2.1, EqP.lay _ h2.2], fun a b => by
    cases a; cases b; simp [PyData.eqv, PyData.eqvAll, EqP.eq]⟩
theorem pyP_listD [EqP α] (xs : List α) : (PyData.list (xs.map EqP.py)).depth ≤ 1 + EqP.dep α := by
  have : PyData.depthAll (xs.map EqP.py) ≤ EqP.dep α := by
    induction xs with
    | nil => simp [PyData.depthAll]
    | cons a xs ih => have := EqP.hdep a; simp [PyData.depthAll]; omega
  simp [PyData.depth]; omega
instance [EqP α] : EqP (List α) := ⟨fun xs => .list (xs.map EqP.py), fun xs => by
    have : toPyL (xs.map fun a => (enc a : D)) = some (xs.map EqP.py) := by
      induction xs with
      | nil => rfl
      | cons a xs ih => simp [toPyL, EqP.to, ih]
    simp [enc, toPy, this], 1 + EqP.dep α, pyP_listD, fun xs => xs.all EqP.ok, fun xs h => by
    have : PyData.canLayAll0 (xs.map EqP.py) = true := by
      induction xs with
      | nil => rfl
      | cons a xs ih =>
        have := Bool.and_eq_true_iff.mp h
        simp [PyData.canLayAll0, EqP.lay _ this.1, ih this.2]
    simp [PyData.canLay0, this], fun xs ys => by
    have : ∀ xs ys : List α, PyData.eqvAll (xs.map EqP.py) (ys.map EqP.py) = true ↔ xs = ys := by
      intro xs
      induction xs with
      | nil => intro ys; cases ys <;> simp [PyData.eqvAll]
      | cons a xs ih => intro ys; cases ys <;> simp [PyData.eqvAll, EqP.eq, ih]
    simp [PyData.eqv, this]⟩
end
class Nrw (α γ : Type) [Ty α] [Ty γ] where
  nrw : α → M γ
  nrw_enc : ∀ a c, nrw a = .ok c → enc c = enc a
  nrw_no : ∀ a, (∃ c, nrw a = .ok c) ∨ nrw a = .no
namespace Nrw
instance (priority := low) refl {α : Type} [Ty α] : Nrw α α := ⟨fun a => .ok a, fun a c h => (by cases h; rfl), fun a => .inl ⟨a, rfl⟩⟩
section
variable {α β γ δ : Type} [Ty α] [Ty β] [Ty γ] [Ty δ]
instance u2a : Nrw (U2 α β) α := ⟨U2.getA, fun a c h => (by cases a <;> simp [U2.getA] at h; subst h; rfl), fun a => by cases a; exact .inl ⟨_, rfl⟩; exact .inr rfl⟩
instance u2b : Nrw (U2 α β) β := ⟨U2.getB, fun a c h => (by cases a <;> simp [U2.getB] at h; subst h; rfl), fun a => by cases a; exact .inr rfl; exact .inl ⟨_, rfl⟩⟩
instance u3a : Nrw (U3 α β γ) α := ⟨U3.getA, fun a c h => (by cases a <;> simp [U3.getA] at h; subst h; rfl), fun a => by cases a; exact .inl ⟨_, rfl⟩; exact .inr rfl; exact .inr rfl⟩
instance u3b : Nrw (U3 α β γ) β := ⟨U3.getB, fun a c h => (by cases a <;> simp [U3.getB] at h; subst h; rfl), fun a => by cases a; exact .inr rfl; exact .inl ⟨_, rfl⟩; exact .inr rfl⟩
instance u3c : Nrw (U3 α β γ) γ := ⟨U3.getC, fun a c h => (by cases a <;> simp [U3.getC] at h; subst h; rfl), fun a => by cases a; exact .inr rfl; exact .inr rfl; exact .inl ⟨_, rfl⟩⟩
instance opt : Nrw (Option α) α := ⟨unopt, fun a c h => (by cases a <;> simp [unopt] at h; subst h; rfl), fun a => by cases a; exact .inr rfl; exact .inl ⟨_, rfl⟩⟩
instance t2 [Nrw α γ] [Nrw β δ] : Nrw (T2 α β) (T2 γ δ) := ⟨fun t => (nrw t.a).bind fun x => (nrw t.b).bind fun y => .ok ⟨x, y⟩, fun t c h => (by
  rcases nrw_no (γ := γ) t.a with ⟨x, hx⟩ | hx
  · rcases nrw_no (γ := δ) t.b with ⟨y, hy⟩ | hy
    · rw [hx, hy] at h
      cases h
      show D.tup [enc x, enc y] = D.tup [enc t.a, enc t.b]
      rw [nrw_enc _ _ hx, nrw_enc _ _ hy]
    · rw [hx, hy] at h; cases h
  · rw [hx] at h; cases h), fun t => by
  rcases nrw_no (γ := γ) t.a with ⟨x, hx⟩ | hx
  · rcases nrw_no (γ := δ) t.b with ⟨y, hy⟩ | hy
    · exact .inl ⟨⟨x, y⟩, by rw [hx, hy]; rfl⟩
    · exact .inr (by rw [hx, hy]; rfl)
  · exact .inr (by rw [hx]; rfl)⟩
end
end Nrw
end Fl
namespace Fl
open PySem PySem.Spec PyProof.Rows L2
open Ty (enc)
/-- lists, or one of two kinds of lists -/
class LL (α : Type) [Ty α] where
  ln : α → Nat
  at_ : ∀ a : α, ∃ xs, enc a = .lst false xs ∧ xs.length = ln a
section
variable {α γ δ : Type} [Ty α] [Ty γ] [Ty δ] {β : Type}
instance : LL (List α) := ⟨List.length, fun xs => ⟨xs.map enc, enc_list xs, by simp⟩⟩
instance [LL α] [LL γ] : LL (U2 α γ) := ⟨fun u => match u with | .a x => LL.ln x | .b x => LL.ln x, fun u => by
  cases u with
  | a x => exact LL.at_ x
  | b x => exact LL.at_ x⟩
def agl : Ags → Bool
  | [] => true
  | [(_, .cl)] => true
  | [(_, .top)] => true
  | [_] => false
  | _ :: a :: as => agl (a :: as)
theorem SatA.tl : ∀ {as : Ags} {ds : List D}, SatA as ds → agl as = true → tlL ds = true
  | [], [], _, _ => rfl
  | [(x, .cl)], [d], h, _ => clean_oi d h.1.2
  | [(x, .top)], [d], h, _ => by
    have h1 : isOL d = true := h.1.2
    cases d <;> simp [isOL] at h1
    · simpa [tlL, isOI] using h1
    · simpa [tlL, isOI] using h1
  | [(x, .any)], [d], h, g => by simp [agl] at g
  | [(x, .tl)], [d], h, g => by simp [agl] at g
  | a :: b :: as, d :: e :: ds, h, g => by
    have := SatA.tl (as := b :: as) (ds := e :: ds) h.2 (by simpa [agl] using g)
    simpa [tlL] using this
  | [], _ :: _, h, _ => h.elim
  | _ :: _, [], h, _ => h.elim
  | [_], _ :: _ :: _, h, _ => h.2.elim
  | _ :: _ :: _, [_], h, _ => h.2.elim
/-- tuples the last of which is a list -/
class TLs (α : Type) [Ty α] where
  ln : α → Nat
  at_ : ∀ a : α, ∃ xs y, enc a = .tup (xs ++ [.lst false y]) ∧ y.length = ln a
instance [LL γ] : TLs (T2 α γ) := ⟨fun t => LL.ln t.b, fun t => by
  obtain ⟨xs, e, hl⟩ := LL.at_ t.b
  exact ⟨[enc t.a], xs, by rw [← e]; rfl, hl⟩⟩
instance [LL δ] : TLs (T3 α γ δ) := ⟨fun t => LL.ln t.c, fun t => by
  obtain ⟨xs, e, hl⟩ := LL.at_ t.c
  exact ⟨[enc t.a, enc t.b], xs, by rw [← e]; rfl, hl⟩⟩
instance [TLs α] [TLs γ] : TLs (U2 α γ) := ⟨fun u => match u with | .a x => TLs.ln x | .b x => TLs.ln x, fun u => by
  cases u with
  | a x => exact TLs.at_ x
  | b x => exact TLs.at_ x⟩
end
end Fl
namespace Fl
open PySem PySem.Spec PyProof.Rows L2 Sim
end Fl
namespace Fl
open PySem PySem.Spec PyProof.Rows L2 Sim
open Ty (enc)
/-- a drawn step -/
structure WSp (n : Net) (x : Stp) : Prop where
  a0 : 0 ≤ x.a
  a1 : x.a < n.b.length
  b0 : 0 ≤ x.b
  b1 : x.b ≤ ((1000000 : Nat) : Rat)
  dv : x.b.den ∣ 5040
section
variable {n : Net} {g : Int → Rat}
def cW : Nat := 1000000 * 2 ^ 48
end
end Fl
namespace Fl
open PySem PySem.Spec PyProof.Rows L2 Sim
section
variable {n : Net} {f : Int → Rat} {S : List Stp}
/-- steps of the net, with parts above 0 -/
def Stps (n : Net) (S : List Stp) : Prop := ∀ x ∈ S, (0 ≤ x.a ∧ x.a < n.b.length) ∧ 0 < x.b
theorem Stps.turn (h : Stps n S) : Stps (turnN n) S := fun x hx => by rw [len_turn]; exact h x hx
theorem Stps.append {T : List Stp} (h : Stps n S) (g : Stps n T) : Stps n (S ++ T) := fun x hx => (List.mem_append.mp hx).elim (h x) (g x)
theorem rFine_backG (h : NetOk n) : ∀ {r : List Trn} {f : Int → Rat}, (∀ t ∈ r, 1 ≤ t.a ∧ ∀ x ∈ t.b, 0 < x.b) → (∀ j, 0 ≤ f j) → RFine n f r → RFine (turnN n) (rEnd n f r) (backR r) ∧ ∀ j, rEnd (turnN n) (rEnd n f r) (backR r) j = f j
  | [], f, _, _, _ => ⟨trivial, fun _ => rfl⟩
  | t :: r, f, hr, hf, ⟨h1, h2⟩ => by
    have ht := hr t List.mem_cons_self
    have t0 : 0 ≤ t.a := by have := ht.1; omega
    have hS : ∀ x ∈ t.b, 0 ≤ x.b := fun x hx => Rat.le_of_lt (ht.2 x hx)
    obtain ⟨i1, i2⟩ := rFine_backG h (r := r) (fun u hu => hr u (List.mem_cons_of_mem _ hu)) (tEnd_nn h t0 hS hf h1) h2
    have eb : backR (t :: r) = backR r ++ [backT t] := by simp [backR]
    rw [eb]
    refine ⟨rFine_append.mpr ⟨i1, (tFine_back h t0 hS hf h1).congr fun j => (i2 j).symm, trivial⟩, fun j => ?_⟩
    rw [rEnd_append]
    show tEnd (turnN n) (rEnd (turnN n) (rEnd n (tEnd n f t) r) (backR r)) (backT t) j = f j
    have := tEnd_back (n := n) (f := f) (t := t) j
    show rEnd (turnN n) (rEnd n (tEnd n f t) r) (backR r) j + ((backT t).a : Rat) * tot (turnN n) (backT t).b j = f j
    rw [i2 j]; exact this
theorem prR_append : ∀ {r s : List Trn} {d : Int}, prR (r ++ s) d = prR r d + prR s d
  | [], s, d => by simp only [List.nil_append, prR]; grind
  | t :: r, s, d => by simp only [List.cons_append, prR, prR_append]; grind
theorem prR_back : ∀ {r : List Trn} {d : Int}, prR (backR r) d = prR r d
  | [], _ => rfl
  | t :: r, d => by
    have eb : backR (t :: r) = backR r ++ [backT t] := by simp [backR]
    rw [eb, prR_append, prR_back]
    show prR r d + ((t.a : Rat) * prt t.b.reverse d + 0) = (t.a : Rat) * prt t.b d + prR r d
    rw [prt_rev]; grind
theorem SpD.toTurn {N v : Nat} {x : Stp} (h : SpD n N v x) : SpD (turnN n) N v x := ⟨h.a0, by rw [len_turn]; exact h.a1, h.b0, h.bb, fun p hp => h.gv p (by rw [dd_turn] at hp; exact hp), fun p hp => h.tk p (by rw [dd_turn] at hp; exact hp)⟩
theorem TrOk.back {N v : Nat} {t : Trn} (h : TrOk n N v t) : TrOk (turnN n) N v (backT t) := by
  have m : ∀ {x}, x ∈ (backT t).b → x ∈ t.b := fun hx => List.mem_reverse.mp hx
  refine ⟨h.a1, h.aN, ?_, ?_, ?_, fun x hx => h.ps x (m hx), fun x hx => (h.st x (m hx)).toTurn, fun x hx => h.sb x (m hx), fun x hx p hp => ?_, fun x hx p hp => ?_⟩
  · show t.b.reverse ≠ []
    simpa using h.ne
  · show (t.b.reverse.map T2.a).Nodup
    rw [List.map_reverse]; exact (List.reverse_perm _).nodup_iff.mpr h.nd
  · show t.b.reverse.length ≤ 100
    simpa using h.ln
  · rw [dd_turn] at hp; exact h.gv x (m hx) p hp
  · rw [dd_turn] at hp; exact h.tk x (m hx) p hp
theorem RunOk.back {N v : Nat} {e p : Int → Rat} {r : List Trn} (h : NetOk n) (R : RunOk n f e p N v r) (f0 : ∀ j, 0 ≤ f j) : RunOk (turnN n) e f p N v (backR r) := by
  obtain ⟨b1, b2⟩ := rFine_backG h (r := r) (f := f) (fun t ht => ⟨(R.tr t ht).a1, (R.tr t ht).ps⟩) f0 R.fn
  have hen : ∀ j, rEnd n f r j = e j := R.en
  refine ⟨by simpa [backR] using R.len, fun t ht => ?_, b1.congr hen, fun j => ?_, fun d hd => ?_⟩
  · obtain ⟨u, hu, rfl⟩ := List.mem_map.mp ht
    exact (R.tr u (List.mem_reverse.mp hu)).back
  · rw [rEnd_congr (fun j => (hen j).symm) j]; exact b2 j
  · rw [prR_back]; exact R.pt d (by rwa [len_turn] at hd)
end
end Fl
namespace Fl
open PySem PySem.Spec PyProof.Rows L2 Sim
end Fl
set_option synthInstance.maxHeartbeats 400000
set_option synthInstance.maxSize 4000
namespace Fl
open PySem PySem.Spec PyProof.Rows L2
open Ty (enc)
end Fl
namespace Fl
open PySem PySem.Spec PyProof.Rows L2 Sim
abbrev RowF := Int → Rat
def wsm (m : Nat) (w g : Int → Rat) : Rat := qs m fun i => w i * g i
section
variable {n : Net}
/-- what parts change -/
def chP (n : Net) (p : Int → Rat) (i : Int) : Rat := qs n.b.length fun d => p d * chg (dd n d) i
theorem chP_add {p q : Int → Rat} {i : Int} : chP n (fun d => p d + q d) i = chP n p i + chP n q i := by
  unfold chP
  rw [← qs_add]
  exact qs_congr fun d _ => by grind
theorem chP_congr {p q : Int → Rat} {i : Int} (h : ∀ d : Nat, d < n.b.length → p d = q d) : chP n p i = chP n q i := qs_congr fun d hd => by rw [h d hd]
end
end Fl
namespace Fl
open PySem PySem.Spec PyProof.Rows L2 Sim
theorem Rom.le {N V N' V' : Nat} (r : Rom N V) (n0 : 0 < N') (v0 : 0 < V') (hn : N' ≤ N) (hv : V' ≤ V) : Rom N' V' := ⟨n0, v0, Nat.lt_of_le_of_lt (Nat.mul_le_mul hv hn) r.sz⟩
end Fl
namespace Fl
open PySem PySem.Spec PyProof.Rows L2 Sim
/-- sizes -/
def qQ (m Z : Nat) : Nat := (m * Z + 1) ^ m
def nM (Q L : Nat) : Nat := Q * (2 * Q) ^ L
def vM (Q L : Nat) : Nat := (L + 2) * (Q * L + Q + 2)
theorem qQ_pos {m Z : Nat} : 0 < qQ m Z := Nat.pow_pos (by omega)
/-- parts of all deeds that are left -/
structure Parts (n : Net) (g : RowF) (left : List Int) (Z : Nat) (p : RowF) : Prop where
  ps : ∀ x ∈ left, 0 < p x
  out : ∀ j, j ∉ left → p j = 0
  ch : ∀ i, 0 ≤ i → i < n.a → chP n p i = g i
  bd : ∃ N, 0 < N ∧ N ≤ nM (qQ n.a.toNat Z) n.b.length ∧ ∀ j, Dq N (vM (qQ n.a.toNat Z) n.b.length) (p j)
theorem Parts.nn {n : Net} {g : RowF} {left : List Int} {Z : Nat} {p : RowF} (P : Parts n g left Z p) (j : Int) : 0 ≤ p j := by
  by_cases hj : j ∈ left
  · exact Rat.le_of_lt (P.ps j hj)
  · rw [P.out j hj]; exact Rat.le_refl
theorem len_sub {left : List Int} {K : Nat} (nd : left.Nodup) (lr : ∀ x ∈ left, 0 ≤ x ∧ x < (K : Int)) : left.length ≤ K := by
  have := len_le_of_sub (l' := rg 0 (K : Int)) nd fun x hx => mem_rg.mpr (lr x hx)
  simpa using this
end Fl
namespace Fl
open PySem PySem.Spec PyProof.Rows L2 Sim
/-- strikes -/
inductive Stk where
  | w (w : RowF)
  | dry (l : List Int)
  | drn (l : List Int)
def wch (n : Net) (w : RowF) (x : Int) : Rat := wsm n.a.toNat w (chg (dd n x))
def gapF (f g : RowF) : RowF := fun j => g j - f j
def wgap (n : Net) (w f g : RowF) : Rat := wsm n.a.toNat w (gapF f g)
def keepW (n : Net) (left : List Int) (w : RowF) : List Int := left.filter fun x => decide (wch n w x = 0)
def keepP (n : Net) (left l : List Int) : List Int := left.filter fun x => (tkN n x).all fun p => !decide (p ∈ l)
structure DryP (n : Net) (f : RowF) (left l : List Int) : Prop where
  so : l.Pairwise (· < ·)
  rg : ∀ p ∈ l, 0 ≤ p ∧ p < n.a
  dr : ∀ p ∈ l, f p = 0
  tk : ∀ x ∈ left, (∃ p ∈ gvN n x, p ∈ l) → ∃ p ∈ tkN n x, p ∈ l
def StrikeOk (n : Net) (f g : RowF) (left : List Int) : Stk → Prop
  | .w w => (∀ x ∈ left, 0 ≤ wch n w x) ∧ wgap n w f g ≤ 0
  | .dry l => DryP n f left l
  | .drn l => DryP (turnN n) g left l
def kept (n : Net) (left : List Int) : Stk → List Int
  | .w w => keepW n left w
  | .dry l => keepP n left l
  | .drn l => keepP (turnN n) left l
def good (n : Net) (f g : RowF) : Stk → Prop
  | .w w => wgap n w f g < 0
  | _ => False
def StkSz (n : Net) (D Z : Nat) : Stk → Prop
  | .w w => ∃ d, 0 < d ∧ d ≤ qQ n.a.toNat Z ∧ ∀ i : Nat, i < n.a.toNat → Cd d ((n.a.toNat + 2) * qQ n.a.toNat Z * D) (w i)
  | _ => True
theorem kept_sub {n : Net} {left : List Int} {s : Stk} : (kept n left s).Sublist left := by
  cases s <;> exact List.filter_sublist
/-- what reach is asked of -/
structure RIn (n : Net) (f g : RowF) (D Z : Nat) : Prop where
  h : NetOk n
  D0 : 0 < D
  hc : ∀ d j, Cd D Z (chg (dd n d) j)
  hf : ∀ j, Cd D Z (f j)
  hg : ∀ j, Cd D Z (g j)
  hgap : ∀ j, Cd D Z (gapF f g j)
  f0 : ∀ j, 0 ≤ f j
  g0 : ∀ j, 0 ≤ g j
  rm : Rom (nM (qQ n.a.toNat Z) n.b.length * qQ n.a.toNat Z) (vM (qQ n.a.toNat Z) n.b.length)
  tw : (n.a.toNat + 2) * (n.a.toNat + 2) * qQ n.a.toNat Z * (D * (Z + 1)) < 2 ^ 190000
section
variable {n : Net} {f g : RowF} {D Z : Nat} {left : List Int}
theorem RIn.sz (I : RIn n f g D Z) : Lm ((n.a.toNat + 1) * qQ n.a.toNat Z) := by
  refine Nat.lt_of_le_of_lt ?_ (Nat.lt_trans I.tw (Nat.pow_lt_pow_right (by decide) (show 190000 < 400000 by decide)))
  have h1 : (n.a.toNat + 1) * qQ n.a.toNat Z ≤ (n.a.toNat + 2) * (n.a.toNat + 2) * qQ n.a.toNat Z := Nat.mul_le_mul_right _ (Nat.le_trans (by omega) (Nat.le_mul_of_pos_right (n.a.toNat + 2) (show 0 < n.a.toNat + 2 by omega)))
  exact Nat.le_trans h1 (Nat.le_mul_of_pos_right _ (Nat.mul_pos I.D0 (by omega)))
theorem RIn.two (I : RIn n f g D Z) {d : Nat} (d0 : 0 < d) (hd : d ≤ qQ n.a.toNat Z) : Two n.a.toNat d ((n.a.toNat + 2) * qQ n.a.toNat Z * D) D Z 190000 := by
  have tw := I.tw
  have Q0 : 0 < qQ n.a.toNat Z := qQ_pos
  have D0 := I.D0
  generalize qQ n.a.toNat Z = Q at *
  generalize n.a.toNat = m at *
  have hp : 0 < (m + 2) * (m + 2) := Nat.mul_pos (by omega) (by omega)
  have h1 : D * (Z + 1) ≤ (m + 2) * (m + 2) * Q * (D * (Z + 1)) := Nat.le_mul_of_pos_left _ (Nat.mul_pos hp Q0)
  refine ⟨d0, D0, ?_, ?_, ?_, ?_, by decide⟩
  · refine Nat.lt_of_le_of_lt (Nat.mul_le_mul hd (Nat.le_refl D)) (Nat.lt_of_le_of_lt ?_ tw)
    exact Nat.mul_le_mul (Nat.le_mul_of_pos_left _ hp) (Nat.le_mul_of_pos_right _ (by omega))
  · refine Nat.lt_of_le_of_lt ?_ tw
    calc m * ((m + 2) * Q * D * Z) = m * (m + 2) * Q * (D * Z) := by ac_rfl
      _ ≤ (m + 2) * (m + 2) * Q * (D * (Z + 1)) := Nat.mul_le_mul (Nat.mul_le_mul_right _ (Nat.mul_le_mul_right _ (by omega))) (Nat.mul_le_mul_left _ (by omega))
  · refine Nat.lt_of_le_of_lt ?_ tw
    calc (m + 2) * Q * D = (m + 2) * 1 * Q * (D * 1) := by simp
      _ ≤ (m + 2) * (m + 2) * Q * (D * (Z + 1)) := Nat.mul_le_mul (Nat.mul_le_mul_right _ (Nat.mul_le_mul_left _ (by omega))) (Nat.mul_le_mul_left _ (by omega))
  · have h2 : Z < D * (Z + 1) := Nat.lt_of_lt_of_le (Nat.lt_succ_self Z) (Nat.le_mul_of_pos_left _ D0)
    omega
theorem chg_turn (x j : Int) : chg (dd (turnN n) x) j = - chg (dd n x) j := by
  unfold chg; rw [dd_turn]; grind
theorem RIn.turn (I : RIn n f g D Z) : RIn (turnN n) g f D Z :=
  ⟨I.h.turn, I.D0, fun d j => by rw [chg_turn]; exact (I.hc d j).neg, I.hg, I.hf, fun j => by
    have : gapF g f j = - gapF f g j := by unfold gapF; grind
    rw [this]; exact (I.hgap j).neg, I.g0, I.f0, by rw [len_turn]; exact I.rm, I.tw⟩
theorem lt_sort {l : List Int} (h : l.Pairwise (· < ·)) : l.mergeSort = l := List.mergeSort_of_pairwise (h.imp fun h => by simpa using Int.le_of_lt h)
theorem sort_fl {l : List Int} {k : List Int} (hl : l.Nodup) (hk : k.Pairwise (· < ·)) (h : ∀ x, x ∈ l ↔ x ∈ k) : l.mergeSort = k := by
  rw [sort_same hl (hk.imp fun h => by omega) h, lt_sort hk]
theorem NetOk.tkr (h : NetOk n) (x : Int) : ∀ p ∈ tkN n x, 0 ≤ p ∧ p < n.a := fun p hp => by
  obtain ⟨q, hq, rfl⟩ := List.mem_map.mp hp
  exact (h.dok x).l.rg q hq
structure PartsAll (n : Net) (f g : RowF) (left : List Int) (Z : Nat) (p : RowF) : Prop where
  ps : Parts n (gapF f g) left Z p
  w1 : ∃ s, Wet n f left s ∧ s.2.1.mergeSort = left
  w2 : ∃ s, Wet (turnN n) g left s ∧ s.2.1.mergeSort = left
end
end Fl
namespace Fl
open PySem PySem.Spec PyProof.Rows L2 Sim
/-- strikes one behind the other, none of which bars -/
inductive Chain (n : Net) (f g : RowF) (D Z : Nat) : List Int → List Stk → List Int → Prop where
  | nil {l : List Int} : Chain n f g D Z l [] l
  | snoc {l l' : List Int} {ss : List Stk} {s : Stk} : Chain n f g D Z l ss l' → StrikeOk n f g l' s → StkSz n D Z s → ¬ good n f g s → Chain n f g D Z l (ss ++ [s]) (kept n l' s)
section
variable {n : Net} {f g : RowF} {D Z : Nat} {left : List Int}
theorem Chain.sub {l l' : List Int} {ss : List Stk} (c : Chain n f g D Z l ss l') : l'.Sublist l := by
  induction c with
  | nil => exact List.Sublist.refl _
  | snoc _ _ _ _ ih => exact kept_sub.trans ih
/-- a bar -/
structure BarOk (n : Net) (f g : RowF) (D Z : Nat) (ss : List Stk) : Prop where
  bar : ∃ (ts : List Stk) (l : List Int) (w : RowF), ss = ts ++ [.w w] ∧ Chain n f g D Z (rg 0 n.b.length) ts l ∧ StrikeOk n f g l (.w w) ∧ StkSz n D Z (.w w) ∧ good n f g (.w w)
  ln : ss.length ≤ n.b.length + 1
end
end Fl
namespace Fl
open PySem PySem.Spec PyProof.Rows L2 Sim
def AllBy (n : Net) (f : RowF) (S : List Int) : Prop := ∃ s, Wet n f S s ∧ s.2.1.mergeSort = S
structure Fit (n : Net) (f g : RowF) (S : List Int) : Prop where
  rg : ∀ x ∈ S, 0 ≤ x ∧ x < n.b.length
  pp : ∃ p : RowF, (∀ x, 0 ≤ p x) ∧ (∀ x, 0 < p x ↔ x ∈ S) ∧ ∀ i, 0 ≤ i → i < n.a → chP n p i = gapF f g i
  w1 : AllBy n f S
  w2 : AllBy (turnN n) g S
section
variable {n : Net} {f g : RowF} {D Z : Nat} {left S : List Int}
theorem chP_turn {p : RowF} {i : Int} : chP (turnN n) p i = - chP n p i := by
  unfold chP
  rw [len_turn, show -(qs n.b.length fun d => p d * chg (dd n d) i) = (-1) * qs n.b.length fun d => p d * chg (dd n d) i by grind, ← qs_mul]
  exact qs_congr fun d _ => by rw [chg_turn]; grind
theorem Fit.turn (F : Fit n f g S) : Fit (turnN n) g f S := ⟨fun x hx => by rw [len_turn]; exact F.rg x hx, by
  obtain ⟨p, h1, h2, h3⟩ := F.pp
  exact ⟨p, h1, h2, fun i i0 i1 => by rw [chP_turn, h3 i i0 i1]; unfold gapF; grind⟩, F.w2, by rw [turn_turn]; exact F.w1⟩
theorem PartsAll.fit {p : RowF} (P : PartsAll n f g left Z p) (lr : ∀ x ∈ left, 0 ≤ x ∧ x < n.b.length) : Fit n f g left := ⟨lr, ⟨p, P.ps.nn, fun x => ⟨fun hx => Classical.byContradiction fun c => by
  rw [P.ps.out x c] at hx; exact absurd hx (by decide), P.ps.ps x⟩, P.ps.ch⟩, P.w1, P.w2⟩
theorem wsm_congr {m : Nat} {w c c' : RowF} (h : ∀ i : Nat, i < m → c i = c' i) : wsm m w c = wsm m w c' := qs_congr fun i hi => by rw [h i hi]
theorem wsm_chP {p w : RowF} : wsm n.a.toNat w (chP n p) = qs n.b.length fun d => p d * wch n w d := by
  unfold wsm chP wch wsm
  have e1 : (qs n.a.toNat fun i => w i * qs n.b.length fun d => p d * chg (dd n d) i) = qs n.a.toNat fun i => qs n.b.length fun d => w i * (p d * chg (dd n d) i) := qs_congr fun i _ => by rw [qs_mul]
  rw [e1, qs_swap]
  exact qs_congr fun d _ => by rw [← qs_mul]; exact qs_congr fun i _ => by grind
theorem qs_all0 {h : Nat → Rat} : ∀ (k : Nat), (∀ i, i < k → 0 ≤ h i) → qs k h ≤ 0 → ∀ i, i < k → h i = 0 := by
  intro k
  induction k with
  | zero => intro _ _ i hi; omega
  | succ k ih =>
    intro h0 hs i hi
    have h1 := qs_nonneg (f := h) (k := k) fun i hi => h0 i (by omega)
    have h2 := h0 k (by omega)
    have hs' : qs k h + h k ≤ 0 := hs
    by_cases c : i = k
    · subst c; grind
    · exact ih (fun i hi => h0 i (by omega)) (by grind) i (by omega)
theorem Fit.gap (F : Fit n f g S) {p w : RowF} (h3 : ∀ i, 0 ≤ i → i < n.a → chP n p i = gapF f g i) : wgap n w f g = qs n.b.length fun d => p d * wch n w d := by
  unfold wgap
  rw [← wsm_chP]
  exact wsm_congr fun i hi => (h3 i (by omega) (by omega)).symm
/-- dry places stay dry -/
theorem dry_out {l : List Int} (h : DryP n f left l) (hS : ∀ x ∈ S, x ∈ left) (A : AllBy n f S) : ∀ x ∈ S, ∀ p ∈ tkN n x, p ∉ l := by
  obtain ⟨s, W, e⟩ := A
  have key : ∀ k (hk : k < s.2.1.length), ∀ p ∈ tkN n s.2.1[k], p ∉ l := by
    intro k
    induction k using Nat.strongRecOn with
    | ind k ih =>
      intro hk p hp hl
      rcases W.od k hk p hp with h1 | ⟨j, hj, hjk, h1⟩
      · have h2 : 0 < f p := by simpa using (List.mem_filter.mp h1).2
        rw [h.dr p hl] at h2
        exact absurd h2 (by decide)
      · obtain ⟨q, hq, hql⟩ := h.tk _ (hS _ (W.fd _ (List.getElem_mem hj))) ⟨p, h1, hl⟩
        exact ih j hjk hj q hq hql
  intro x hx
  have hx' : x ∈ s.2.1 := by rw [← List.mem_mergeSort (le := fun a b => decide (a ≤ b)), e]; exact hx
  obtain ⟨k, hk, rfl⟩ := List.getElem_of_mem hx'
  exact key k hk
theorem fit_strike {s : Stk} (O : StrikeOk n f g left s) (hS : ∀ x ∈ S, x ∈ left) (F : Fit n f g S) : ¬ good n f g s ∧ ∀ x ∈ S, x ∈ kept n left s := by
  cases s with
  | w w =>
    obtain ⟨p, p0, p1, p2⟩ := F.pp
    have e := F.gap (w := w) p2
    have h0 : ∀ d : Nat, d < n.b.length → 0 ≤ p d * wch n w d := fun d _ => by
      by_cases c : (d : Int) ∈ S
      · exact Rat.mul_nonneg (p0 _) (O.1 _ (hS _ c))
      · have : p d = 0 := by have := p0 d; have := mt (p1 d).mp c; grind
        rw [this]; grind
    refine ⟨fun hg => ?_, fun x hx => List.mem_filter.mpr ⟨hS x hx, ?_⟩⟩
    · have h1 : wgap n w f g < 0 := hg
      have := qs_nonneg h0
      grind
    · have hr := F.rg x hx
      have := qs_all0 _ h0 (by rw [← e]; exact O.2) x.toNat (by omega)
      rw [Int.toNat_of_nonneg hr.1] at this
      have hp := (p1 x).mpr hx
      have : wch n w x = 0 := by
        rcases Rat.mul_eq_zero.mp this with h | h
        · grind
        · exact h
      simpa using this
  | dry l =>
    refine ⟨id, fun x hx => List.mem_filter.mpr ⟨hS x hx, ?_⟩⟩
    simpa using dry_out O hS F.w1 x hx
  | drn l =>
    refine ⟨id, fun x hx => List.mem_filter.mpr ⟨hS x hx, ?_⟩⟩
    simpa using dry_out O hS F.w2 x hx
theorem Chain.fit {l l' : List Int} {ss : List Stk} (c : Chain n f g D Z l ss l') (hS : ∀ x ∈ S, x ∈ l) (F : Fit n f g S) : ∀ x ∈ S, x ∈ l' := by
  induction c with
  | nil => exact hS
  | snoc c1 c2 c3 c4 ih => exact (fit_strike c2 ih F).2
theorem BarOk.no {ss : List Stk} (B : BarOk n f g D Z ss) : ¬ Fit n f g S := fun F => by
  obtain ⟨ts, l, w, _, hC, O, _, hg⟩ := B.bar
  exact (fit_strike O (hC.fit (fun x hx => mem_rg.mpr (F.rg x hx)) F) F).1 hg
/-- the greatest set of deeds that take part -/
structure Most (n : Net) (f g : RowF) (left : List Int) : Prop where
  so : left.Pairwise (· < ·)
  fit : Fit n f g left
  top : ∀ S, Fit n f g S → ∀ x ∈ S, x ∈ left
theorem Most.turn {l : List Int} (a : Most n f g l) : Most (turnN n) g f l := ⟨a.so, a.fit.turn, fun S F => by
  have := F.turn
  rw [turn_turn] at this
  exact a.top S this⟩
end
end Fl
namespace Fl
open PySem PySem.Spec PyProof.Rows L2 Sim
open Ty (enc)
end Fl
namespace Fl
open PySem PySem.Spec PyProof.Rows L2 Sim
open Ty (enc)
section
variable {n : Net} {f g : RowF} {D Z : Nat} {left : List Int}
theorem DeedsOk.sub {k l : List Int} (h : DeedsOk n l) (s : k.Sublist l) : DeedsOk n k := ⟨fun x hx => h.rg x (s.subset hx), Nat.le_trans s.length_le h.ln⟩
end
end Fl
namespace Fl
open PySem PySem.Spec PyProof.Rows L2 Sim
open Ty (enc)
/-- what reach is asked of, with room for its run -/
structure RRunA (n : Net) (f g : RowF) (A D Z V : Nat) : Prop extends RIn n f g D Z where
  na : NetD n A
  m60 : n.a ≤ 60
  hV : Z + 1300 * (vM (qQ n.a.toNat Z) n.b.length * 2 ^ 48) ≤ V
  rr : ∀ N, 0 < N → N ≤ nM (qQ n.a.toNat Z) n.b.length → V * roomN n (D * N * 3 * A) A (vM (qQ n.a.toNat Z) n.b.length) < 2 ^ 190000
section
variable {n : Net} {f g : RowF} {A D Z V : Nat} {left : List Int}
theorem room_turn {a b c : Nat} : roomN (turnN n) a b c = roomN n a b c := by unfold roomN roomF; rw [len_turn]
theorem RRunA.turn (I : RRunA n f g A D Z V) : RRunA (turnN n) g f A D Z V := by
  have rr := I.rr
  have hV := I.hV
  refine ⟨I.toRIn.turn, I.na.turn, I.m60, ?_, fun N n0 hN => ?_⟩
  · rw [len_turn]; exact hV
  · rw [room_turn]
    rw [len_turn] at hN ⊢
    exact rr N n0 hN
/-- a run that reach tells -/
structure RunTo (n : Net) (f g : RowF) (V : Nat) (left : List Int) (r : List Trn) : Prop where
  most : Most n f g left
  run : ∃ e p N v U, RunOk n f e p N v r ∧ Rom N V ∧ (∀ i, 0 ≤ i → i < n.a → e i = g i) ∧ (∀ j, Dq N U (f j)) ∧ (∀ j, Dq N U (e j)) ∧ U + 1200 * v ≤ V ∧ (∀ d : Int, 0 ≤ d → d < n.b.length → (0 < p d ↔ d ∈ left) ∧ 0 ≤ p d)
theorem RunTo.len {r : List Trn} (R : RunTo n f g V left r) : r.length ≤ 3 := by
  obtain ⟨e, p, N, v, U, R1, _⟩ := R.run
  exact R1.len
end
end Fl
namespace Fl
open PySem PySem.Spec PyProof.Rows L2 Sim
end Fl
namespace Fl
open PySem PySem.Spec PyProof.Rows L2 Sim
open Ty (enc)
def rB : Nat := 2 ^ 62
end Fl
namespace Fl
open PySem PySem.Spec PyProof.Rows L2 Sim
section
variable {n : Net} {f g h' : RowF} {S T : List Int}
theorem wet_mono {d1 d2 : List Int} {s t : WS} (A : Wet n f d1 s) (B : Wet n g d2 t) (hi : ∀ p ∈ wets n.a f, p ∈ t.1) (hd : ∀ x ∈ s.2.1, x ∈ d2) : ∀ x ∈ s.2.1, x ∈ t.2.1 := by
  have key : ∀ k (hk : k < s.2.1.length), s.2.1[k] ∈ t.2.1 := by
    intro k
    induction k using Nat.strongRecOn with
    | ind k ih =>
      intro hk
      refine B.cl _ (hd _ (List.getElem_mem hk)) fun p hp => ?_
      rcases A.od k hk p hp with h1 | ⟨j, hj, hjk, h1⟩
      · exact hi p h1
      · exact (B.wi p).mpr (.inr ⟨_, ih j hjk hj, h1⟩)
  intro x hx
  obtain ⟨k, hk, rfl⟩ := List.getElem_of_mem hx
  exact key k hk
theorem mem_wt {p : Int} : p ∈ wets n.a f ↔ (0 ≤ p ∧ p < n.a) ∧ 0 < f p := by simp [wets, mem_rg]
theorem AllBy.so (A : AllBy n f S) : S.Pairwise (· < ·) := by
  obtain ⟨s, W, e⟩ := A
  have h1 : s.2.1.mergeSort.Pairwise (fun a b : Int => decide (a ≤ b) = true) := List.pairwise_mergeSort (fun a b c => by simp; omega) (fun a b => by simp; omega) _
  have h2 : s.2.1.mergeSort.Nodup := (List.mergeSort_perm _ _).nodup_iff.mpr W.fn
  rw [e] at h1 h2
  exact (h1.and h2).imp fun ⟨a, b⟩ => by simp at a; omega
theorem AllBy.mem (A : AllBy n f S) : ∃ s, Wet n f S s ∧ ∀ x ∈ S, x ∈ s.2.1 := by
  obtain ⟨s, W, e⟩ := A
  exact ⟨s, W, fun x hx => by rw [← List.mem_mergeSort (le := fun a b => decide (a ≤ b)), e]; exact hx⟩
/-- a set of deeds, if all can be done -/
theorem allBy_of (h : NetOk n) (hd : DeedsOk n S) (so : S.Pairwise (· < ·)) (ha : ∀ s, Wet n f S s → ∀ x ∈ S, x ∈ s.2.1) : AllBy n f S := by
  obtain ⟨s, _, W⟩ := in_turn_eq (f := f) h hd
  exact ⟨s, W, sort_fl W.fn so fun x => ⟨W.fd x, ha s W x⟩⟩
def un (K : Nat) (S T : List Int) : List Int := (rg 0 (K : Int)).filter fun x => decide (x ∈ S) || decide (x ∈ T)
theorem mem_un {K : Nat} {x : Int} : x ∈ un K S T ↔ (0 ≤ x ∧ x < K) ∧ (x ∈ S ∨ x ∈ T) := by simp [un, mem_rg]
theorem un_so {K : Nat} : (un K S T).Pairwise (· < ·) := (rg_lt 0 _).filter _
theorem un_ok (h : NetOk n) : DeedsOk n (un n.b.length S T) := (deeds_all h).sub List.filter_sublist
theorem AllBy.more (h : NetOk n) (hd : DeedsOk n S) (A : AllBy n f S) (hf : ∀ j, 0 ≤ j → j < n.a → 0 < f j → 0 < g j) : AllBy n g S := allBy_of h hd A.so fun t B x hx => by
  obtain ⟨s, W, q⟩ := A.mem
  refine wet_mono W B (fun p hp => (B.wi p).mpr (.inl ?_)) (fun y hy => W.fd y hy) x (q x hx)
  obtain ⟨r, q⟩ := mem_wt.mp hp
  exact mem_wt.mpr ⟨r, hf p r.1 r.2 q⟩
/-- from where others have led -/
theorem AllBy.join (h : NetOk n) (A : AllBy n f S) (hS : ∀ x ∈ S, 0 ≤ x ∧ x < n.b.length) (B : AllBy n g T) (hT : ∀ x ∈ T, 0 ≤ x ∧ x < n.b.length)
    (hg : ∀ p, 0 ≤ p → p < n.a → 0 < g p → 0 < f p ∨ ∃ x ∈ S, p ∈ gvN n x) : AllBy n f (un n.b.length S T) := allBy_of h (un_ok h) un_so fun t C => by
  obtain ⟨s, W, q⟩ := A.mem
  obtain ⟨s2, W2, q2⟩ := B.mem
  have a1 : ∀ x ∈ S, x ∈ t.2.1 := fun x hx => wet_mono W C (fun p hp => (C.wi p).mpr (.inl hp)) (fun y hy => mem_un.mpr ⟨hS y (W.fd y hy), .inl (W.fd y hy)⟩) x (q x hx)
  have a2 : ∀ x ∈ T, x ∈ t.2.1 := fun x hx => wet_mono W2 C (fun p hp => by
    obtain ⟨r, q3⟩ := mem_wt.mp hp
    rcases hg p r.1 r.2 q3 with h1 | ⟨y, hy, h1⟩
    · exact (C.wi p).mpr (.inl (mem_wt.mpr ⟨r, h1⟩))
    · exact (C.wi p).mpr (.inr ⟨y, a1 y hy, h1⟩)) (fun y hy => mem_un.mpr ⟨hT y (W2.fd y hy), .inr (W2.fd y hy)⟩) x (q2 x hx)
  intro x hx
  rcases (mem_un.mp hx).2 with h1 | h1
  · exact a1 x h1
  · exact a2 x h1
theorem gv_of_chg (h : NetOk n) {x j : Int} (hp : 0 < chg (dd n x) j) : j ∈ gvN n x := by
  refine Classical.byContradiction fun c => ?_
  have h1 : amt (dd n x).b j = 0 := amt_out c
  have h2 : 0 ≤ amt (dd n x).a j := ((h.dok x).l.amt_sz j).2
  unfold chg at hp
  grind
theorem pos_from (h : NetOk n) {p : RowF} (p0 : ∀ x, 0 ≤ p x) (p1 : ∀ x, 0 < p x ↔ x ∈ S) (hc : ∀ i, 0 ≤ i → i < n.a → chP n p i = gapF f g i) {i : Int} (i0 : 0 ≤ i) (i1 : i < n.a) (hf : 0 ≤ f i) (hg : 0 < g i) : 0 < f i ∨ ∃ x ∈ S, i ∈ gvN n x := by
  by_cases c : 0 < f i
  · exact .inl c
  · have h0 : 0 < chP n p i := by rw [hc i i0 i1]; unfold gapF; grind
    obtain ⟨d, hd, h1⟩ := qs_pos_ex h0
    refine .inr ⟨d, ?_, gv_of_chg h (x := d) ?_⟩
    · refine (p1 d).mp ?_
      have := p0 d
      have : p (d : Int) ≠ 0 := fun e => by rw [e, Rat.zero_mul] at h1; exact absurd h1 (by decide)
      grind
    · have hp0 := p0 d
      refine Rat.not_le.mp fun c => ?_
      have := Rat.mul_nonneg hp0 (show 0 ≤ -chg (dd n d) i by grind)
      grind
theorem Fit.ok (h : NetOk n) (F : Fit n f g S) : DeedsOk n S := ⟨F.rg, by have := len_sub (K := n.b.length) (F.w1.so.imp fun h => by omega) F.rg; have := h.ln; omega⟩
/-- one run behind the other -/
theorem Fit.comp (h : NetOk n) (F : Fit n f g S) (G : Fit n g h' T) (f0 : ∀ j, 0 ≤ f j) (g0 : ∀ j, 0 ≤ g j) (h0 : ∀ j, 0 ≤ h' j) : Fit n f h' (un n.b.length S T) := by
  obtain ⟨p, p0, p1, p2⟩ := F.pp
  obtain ⟨q, q0, q1, q2⟩ := G.pp
  have Ft := F.turn
  have Gt := G.turn
  obtain ⟨p', p0', p1', p2'⟩ := Gt.pp
  refine ⟨fun x hx => (mem_un.mp hx).1, ⟨fun d => p d + q d, fun x => Rat.add_nonneg (p0 x) (q0 x), fun x => ?_, fun i i0 i1 => ?_⟩, ?_, ?_⟩
  · rw [mem_un, ← p1, ← q1]
    have := p0 x; have := q0 x
    constructor
    · intro hx
      have h1 : 0 < p x ∨ 0 < q x := by
        by_cases c : 0 < p x
        · exact .inl c
        · refine .inr ?_; grind
      refine ⟨?_, h1⟩
      rcases h1 with h1 | h1
      · exact F.rg x ((p1 x).mp h1)
      · exact G.rg x ((q1 x).mp h1)
    · rintro ⟨_, h1 | h1⟩ <;> grind
  · rw [chP_add, p2 i i0 i1, q2 i i0 i1]; unfold gapF; grind
  · exact F.w1.join h F.rg G.w1 G.rg fun i i0 i1 hi => pos_from h p0 p1 p2 i0 i1 (f0 i) hi
  · have e : un n.b.length S T = un (turnN n).b.length T S := by
      rw [len_turn]; unfold un; exact List.filter_congr fun x _ => Bool.or_comm _ _
    rw [e]
    exact Gt.w1.join h.turn Gt.rg Ft.w1 Ft.rg fun i i0 i1 hi => pos_from h.turn p0' p1' p2' i0 i1 (h0 i) hi
theorem Fit.add (h : NetOk n) (F : Fit n f g S) {m f' g' : RowF} (hm : ∀ j, 0 ≤ m j) (hf : ∀ j, 0 ≤ j → j < n.a → f' j = f j + m j) (hg : ∀ j, 0 ≤ j → j < n.a → g' j = g j + m j) : Fit n f' g' S := by
  obtain ⟨p, p0, p1, p2⟩ := F.pp
  refine ⟨F.rg, ⟨p, p0, p1, fun i i0 i1 => ?_⟩, F.w1.more h (F.ok h) fun j j0 j1 hj => ?_, F.w2.more h.turn (F.turn.ok h.turn) fun j j0 j1 hj => ?_⟩
  · rw [p2 i i0 i1]; unfold gapF; rw [hf i i0 i1, hg i i0 i1]; grind
  · rw [hf j j0 j1]; have := hm j; grind
  · have j1' : j < n.a := j1
    rw [hg j j0 j1']; have := hm j; grind
end
end Fl
namespace Fl
open PySem
open Ty (enc)
noncomputable instance : EqP (Option Str) := ⟨fun o => match o with | none => .none | some a => EqP.py a, fun o => by
    cases o with
    | none => rfl
    | some a => exact EqP.to a, EqP.dep Str, fun o => by
    cases o with
    | none => simp [PyData.depth]
    | some a => exact EqP.hdep a, fun o => match o with | none => true | some a => EqP.ok a, fun o h => by
    cases o with
    | none => rfl
    | some a => exact EqP.lay a h, fun o p => by
    cases o with
    | none => cases p with
      | none => exact ⟨fun _ => rfl, fun _ => rfl⟩
      | some b => exact ⟨fun h => by simp [EqP.py, PyData.eqv] at h, fun h => by cases h⟩
    | some a => cases p with
      | none => exact ⟨fun h => by simp [EqP.py, PyData.eqv] at h, fun h => by cases h⟩
      | some b => exact (EqP.eq a b).trans ⟨fun h => by rw [h], fun h => by cases h; rfl⟩⟩
theorem sIf_or {a b : Tst} {s u : Stm} : sIf (bOr a b) s u = sIf a s (sIf b s u) := by
  funext env
  unfold sIf bOr
  cases a env with
  | no => rfl
  | ex x e => rfl
  | ok p => obtain ⟨t, e⟩ := p; cases t <;> rfl
theorem ks_ifor {β : Type} {N : En β} {Γ : Ctx} {w : M β} {Ψ : Ctx → M β → Prop} {a b : Tst} {s u : Stm} (h : KS N Γ (sIf a s (sIf b s u)) w Ψ) : KS N Γ (sIf (bOr a b) s u) w Ψ := by rw [sIf_or]; exact h
theorem ks_nw {α γ β : Type} [Ty α] [Ty γ] [Nrw α γ] {N : En β} {Γ : Ctx} {m : Stm} {Ψ : Ctx → M β → Prop} {u : α} {μ : Md} {k : γ → M β} (i : Nat) (hi : Γ[i]? = some (Is (enc u) μ)) (h : ∀ x, KS N (Γ.set i (Is (enc x) μ)) m (k x) Ψ) : KS N Γ m ((Nrw.nrw u).bind k) Ψ :=
  ks_nr i Nrw.nrw_enc (fun a c l q => by
    rcases Nrw.nrw_no (γ := γ) a with ⟨x, hx⟩ | hx
    · rw [hx] at q; cases q
    · rw [hx] at q; cases q) hi h
def JU (P Q : D → Prop) : D → Prop := fun d => P d ∨ Q d
instance {α β : Type} [Ty α] [Ty β] [Jt α] [Jt β] : Jt (U2 α β) := ⟨JU (Jt.shp α) (Jt.shp β), fun u => match u with | .a x => Jt.ok x | .b x => Jt.ok x, fun u d h hd => by
  cases u with
  | a x => exact .inl (Jt.jof x d h hd)
  | b x => exact .inr (Jt.jof x d h hd)⟩
end Fl
namespace Fl
open PySem PySem.Spec PyProof.Rows L2 Sim
open Ty (enc)
section
variable {n : Net} {f g f' g' : RowF} {S l : List Int}
theorem Most.more (h : NetOk n) (M : Most n f g l) {m : RowF} {k : List Int} (hm : ∀ j, 0 ≤ m j) (hf : ∀ j, 0 ≤ j → j < n.a → f' j = f j + m j) (hg : ∀ j, 0 ≤ j → j < n.a → g' j = g j + m j) (K : Most n f' g' k) : ∀ x ∈ l, x ∈ k :=
  K.top l (M.fit.add h hm hf hg)
end
end Fl
set_option synthInstance.maxHeartbeats 400000
set_option synthInstance.maxSize 4000
namespace Fl
open PySem PySem.Spec PyProof.Rows L2
open Ty (enc)
end Fl
namespace Fl
open PySem PySem.Spec PyProof.Rows L2 Sim
open Ty (enc)
/-- what again tells -/
structure AgOk (n : Net) (D Z : Nat) (p w : RowF) : Prop where
  p0 : ∀ d, 0 ≤ p d
  pb : ∃ N, 0 < N ∧ N ≤ qQ n.a.toNat Z ^ n.b.length ∧ ∀ d, Dq N (n.b.length * (qQ n.a.toNat Z + 1)) (p d)
  ch : ∀ i, 0 ≤ i → i < n.a → chP n p i = 0
  w0 : ∀ x : Int, 0 ≤ x → x < n.b.length → 0 ≤ wch n w x
  wb : ∃ M, 0 < M ∧ M ≤ qQ n.a.toNat Z ^ n.b.length ∧ ∀ i : Nat, i < n.a.toNat → Dq M (n.b.length * ((n.a.toNat + 2) * qQ n.a.toNat Z * D)) (w i)
  one : ∀ x : Int, 0 ≤ x → x < n.b.length → 0 < p x ∨ 0 < wch n w x
section
variable {n : Net} {p w : RowF} {D Z : Nat}
theorem AgOk.out (A : AgOk n D Z p w) {q : RowF} (q0 : ∀ d, 0 ≤ q d) (hq : ∀ i, 0 ≤ i → i < n.a → chP n q i = 0) {x : Int} (x0 : 0 ≤ x) (x1 : x < n.b.length) (hx : 0 < q x) : wch n w x = 0 := by
  have h0 : qs n.b.length (fun d => q d * wch n w d) = 0 := by
    rw [← wsm_chP]
    exact (wsm_congr (c' := fun _ => 0) fun i hi => hq i (by omega) (by omega)).trans (qs_zero fun i _ => by grind)
  have := qs_all0 n.b.length (h := fun d => q d * wch n w d) (fun i hi => Rat.mul_nonneg (q0 i) (A.w0 i (by omega) (by omega))) (by rw [h0]; exact Rat.le_refl) x.toNat (by omega)
  rw [Int.toNat_of_nonneg x0] at this
  rcases Rat.mul_eq_zero.mp this with h | h
  · rw [h] at hx; exact absurd hx (by decide)
  · exact h
theorem AgOk.zero (A : AgOk n D Z p w) {x : Int} (x0 : 0 ≤ x) (x1 : x < n.b.length) : 0 < p x ↔ wch n w x = 0 := by
  constructor
  · exact fun hx => A.out A.p0 A.ch x0 x1 hx
  · intro h
    rcases A.one x x0 x1 with h1 | h1
    · exact h1
    · rw [h] at h1; exact absurd h1 (by decide)
theorem AgOk.top (A : AgOk n D Z p w) {q : RowF} (q0 : ∀ d, 0 ≤ q d) (hq : ∀ i, 0 ≤ i → i < n.a → chP n q i = 0) {x : Int} (x0 : 0 ≤ x) (x1 : x < n.b.length) (hx : 0 < q x) : 0 < p x :=
  (A.zero x0 x1).mpr (A.out q0 hq x0 x1 hx)
end
end Fl
namespace Fl
open PySem PySem.Spec PyProof.Rows L2 Sim
open Ty (enc)
section
variable {n : Net} {f g p w : RowF} {A D Z V : Nat} {left S : List Int}
/-- a run of no parts -/
theorem RunOk.none {e : RowF} {N v : Nat} {r : List Trn} (R : RunOk n f e p N v r) (hp : ∀ d : Int, 0 ≤ d → d < n.b.length → p d = 0) : r = [] := by
  rcases r with _ | ⟨t, r⟩
  · rfl
  · have T := R.tr t List.mem_cons_self
    rcases hb : t.b with _ | ⟨x, S⟩
    · exact absurd hb T.ne
    · exfalso
      have nn : ∀ {S : List Stp}, (∀ x ∈ S, 0 < x.b) → ∀ d, 0 ≤ prt S d := fun {S} hS d => by
        induction S with
        | nil => exact Rat.le_refl
        | cons y S ih =>
          have h1 := ih fun z hz => hS z (List.mem_cons_of_mem _ hz)
          have h2 := hS y List.mem_cons_self
          simp only [prt]
          split <;> grind
      have nr : ∀ {r : List Trn}, (∀ t ∈ r, TrOk n N v t) → ∀ d, 0 ≤ prR r d := fun {r} hr d => by
        induction r with
        | nil => exact Rat.le_refl
        | cons y S ih =>
          have h1 := ih fun z hz => hr z (List.mem_cons_of_mem _ hz)
          have h2 := hr y List.mem_cons_self
          have h3 := nn h2.ps d
          have h4 : (0 : Rat) ≤ (y.a : Rat) := Rat.intCast_nonneg.mpr (by have := h2.a1; omega)
          have h5 := Rat.mul_nonneg h4 h3
          simp only [prR]
          grind
      have hx : x ∈ t.b := by rw [hb]; exact List.mem_cons_self
      have sx := T.st x hx
      have h1 := R.pt x.a.toNat (by have := sx.a0; have := sx.a1; omega)
      rw [Int.toNat_of_nonneg sx.a0, hp x.a sx.a0 sx.a1] at h1
      have h2 := nr (fun y hy => R.tr y (List.mem_cons_of_mem _ hy)) x.a
      have h3 := T.ps x hx
      have h4 : 0 < prt t.b x.a := by
        rw [hb]
        have := nn (S := S) (fun y hy => T.ps y (by rw [hb]; exact List.mem_cons_of_mem _ hy)) x.a
        simp only [prt, if_pos]
        grind
      have h5 : (0 : Rat) < (t.a : Rat) := Rat.intCast_pos.mpr (by have := T.a1; omega)
      have h6 := Rat.mul_pos h5 h4
      simp only [prR] at h1
      grind
/-- all can be done where all is wet -/
theorem allBy_wet (h : NetOk n) (hd : DeedsOk n S) (so : S.Pairwise (· < ·)) (hf : ∀ j, 0 ≤ j → j < n.a → 0 < f j) : AllBy n f S := allBy_of h hd so fun s B x hx =>
  B.cl x hx fun y hy => (B.wi y).mpr (.inl (mem_wt.mpr ⟨h.tkr x y hy, hf y (h.tkr x y hy).1 (h.tkr x y hy).2⟩))
theorem AgOk.dd (A : AgOk n D Z p w) : (∀ x ∈ deedsOf n.b.length p, 0 ≤ x ∧ x < n.b.length) ∧ (deedsOf n.b.length p).Pairwise (· < ·) := ⟨fun x hx => (mem_deeds.mp hx).1, (rg_lt 0 _).filter _⟩
theorem chP_in {p q : RowF} {i : Int} (h : ∀ d : Int, 0 ≤ d → d < n.b.length → p d = q d) : chP n p i = chP n q i := chP_congr fun d hd => h d (by omega) (by omega)
/-- told parts, nought for what is no deed -/
def onK (n : Net) (p : RowF) : RowF := fun d => if 0 ≤ d ∧ d < n.b.length then p d else 0
theorem onK_pos {x : Int} : 0 < onK n p x ↔ x ∈ deedsOf n.b.length p := by
  rw [mem_deeds]; unfold onK
  split
  · rename_i h; exact ⟨fun q => ⟨h, q⟩, fun q => q.2⟩
  · rename_i h; exact ⟨fun q => absurd q (by decide), fun q => absurd q.1 h⟩
theorem AgOk.fit (A : AgOk n D Z p w) (h : NetOk n) (w1 : AllBy n f (deedsOf n.b.length p)) (w2 : AllBy (turnN n) f (deedsOf n.b.length p)) : Fit n f f (deedsOf n.b.length p) := by
  refine ⟨A.dd.1, ⟨onK n p, fun x => ?_, fun x => onK_pos, fun i i0 i1 => ?_⟩, w1, w2⟩
  · unfold onK; split; exact A.p0 x; exact Rat.le_refl
  · rw [chP_in (p := onK n p) (q := p) (fun d d0 d1 => by unfold onK; exact if_pos ⟨d0, d1⟩), A.ch i i0 i1]; unfold gapF; grind
theorem AgOk.of_fit (A : AgOk n D Z p w) (F : Fit n f f S) : ∀ x ∈ S, x ∈ deedsOf n.b.length p := fun x hx => by
  obtain ⟨q, q0, q1, q2⟩ := F.pp
  have r := F.rg x hx
  exact mem_deeds.mpr ⟨r, A.top q0 (fun i i0 i1 => by rw [q2 i i0 i1]; unfold gapF; grind) r.1 r.2 ((q1 x).mpr hx)⟩
theorem AgOk.most (A : AgOk n D Z p w) (h : NetOk n) (hf : ∀ j, 0 ≤ j → j < n.a → 0 < f j) : Most n f f (deedsOf n.b.length p) := by
  have so := A.dd.2
  have hd : DeedsOk n (deedsOf n.b.length p) := (deeds_all h).sub List.filter_sublist
  have hd2 : DeedsOk (turnN n) (deedsOf n.b.length p) := ⟨fun x hx => by rw [len_turn]; exact hd.rg x hx, hd.ln⟩
  exact ⟨so, A.fit h (allBy_wet h hd so hf) (allBy_wet h.turn hd2 so hf), fun S F => A.of_fit F⟩
end
end Fl
namespace Fl
open PySem PySem.Spec PyProof.Rows L2 Sim
open Ty (enc)
/-- what near is asked of -/
structure NInA (n : Net) (f g : RowF) (A D Z : Nat) : Prop where
  h : NetOk n
  na : NetD n A
  m60 : n.a ≤ 60
  D0 : 0 < D
  AD : A ∣ D
  hc : ∀ d j, Cd D Z (chg (dd n d) j)
  hf : ∀ j, Cd D Z (f j)
  hg : ∀ j, Cd D Z (g j)
  hgap : ∀ j, Cd D Z (gapF f g j)
  f0 : ∀ j, 0 ≤ f j
  tw : (n.a.toNat + 2) * (n.a.toNat + 2) * qQ n.a.toNat Z * (D * (Z + 1)) < 2 ^ 190000
  rm : ∃ s, qQ n.a.toNat Z < 2 ^ s ∧ D < 2 ^ s ∧ Z < 2 ^ s ∧ (n.b.length + 1) * (2 * s + 120) + 3 * s ≤ 100000
section
variable {n : Net} {f g p w : RowF} {A D Z : Nat} {l : List Int}
theorem NInA.sz (I : NInA n f g A D Z) : Lm ((n.a.toNat + 1) * qQ n.a.toNat Z) := by
  refine Nat.lt_of_le_of_lt ?_ (Nat.lt_trans I.tw (Nat.pow_lt_pow_right (by decide) (show 190000 < 400000 by decide)))
  have h1 : (n.a.toNat + 1) * qQ n.a.toNat Z ≤ (n.a.toNat + 2) * (n.a.toNat + 2) * qQ n.a.toNat Z := Nat.mul_le_mul_right _ (Nat.le_trans (by omega) (Nat.le_mul_of_pos_right (n.a.toNat + 2) (show 0 < n.a.toNat + 2 by omega)))
  exact Nat.le_trans h1 (Nat.le_mul_of_pos_right _ (Nat.mul_pos I.D0 (by omega)))
theorem NInA.two (I : NInA n f g A D Z) {d : Nat} (d0 : 0 < d) (hd : d ≤ qQ n.a.toNat Z) : Two n.a.toNat d ((n.a.toNat + 2) * qQ n.a.toNat Z * D) D Z 190000 := by
  have tw := I.tw
  have Q0 : 0 < qQ n.a.toNat Z := qQ_pos
  have D0 := I.D0
  generalize qQ n.a.toNat Z = Q at *
  generalize n.a.toNat = m at *
  have hp : 0 < (m + 2) * (m + 2) := Nat.mul_pos (by omega) (by omega)
  refine ⟨d0, D0, ?_, ?_, ?_, ?_, by decide⟩
  · refine Nat.lt_of_le_of_lt (Nat.mul_le_mul hd (Nat.le_refl D)) (Nat.lt_of_le_of_lt ?_ tw)
    exact Nat.mul_le_mul (Nat.le_mul_of_pos_left _ hp) (Nat.le_mul_of_pos_right _ (by omega))
  · refine Nat.lt_of_le_of_lt ?_ tw
    calc m * ((m + 2) * Q * D * Z) = m * (m + 2) * Q * (D * Z) := by ac_rfl
      _ ≤ (m + 2) * (m + 2) * Q * (D * (Z + 1)) := Nat.mul_le_mul (Nat.mul_le_mul_right _ (Nat.mul_le_mul_right _ (by omega))) (Nat.mul_le_mul_left _ (by omega))
  · refine Nat.lt_of_le_of_lt ?_ tw
    calc (m + 2) * Q * D = (m + 2) * 1 * Q * (D * 1) := by simp
      _ ≤ (m + 2) * (m + 2) * Q * (D * (Z + 1)) := Nat.mul_le_mul (Nat.mul_le_mul_right _ (Nat.mul_le_mul_left _ (by omega))) (Nat.mul_le_mul_left _ (by omega))
  · have h2 : Z < D * (Z + 1) := Nat.lt_of_lt_of_le (Nat.lt_succ_self Z) (Nat.le_mul_of_pos_left _ D0)
    have h1 : D * (Z + 1) ≤ (m + 2) * (m + 2) * Q * (D * (Z + 1)) := Nat.le_mul_of_pos_left _ (Nat.mul_pos hp Q0)
    omega
end
end Fl
namespace Fl
open PySem PySem.Spec PyProof.Rows L2 Sim
open Ty (enc)
end Fl
namespace Fl
open PySem PySem.Spec PyProof.Rows L2 Sim
open Ty (enc)
/-- parts that show that an end is near -/
structure Nr (n : Net) (f g p : RowF) : Prop where
  p0 : ∀ d, 0 ≤ p d
  ab : ∀ s, Wet n f (rg 0 n.b.length) s → ∀ x : Int, 0 ≤ x → x < n.b.length → 0 < p x → x ∈ s.2.1
  ch : ∀ i, 0 ≤ i → i < n.a → chP n p i = gapF f g i
section
variable {n : Net} {f g h' f' g' p q w m : RowF} {D Z : Nat} {l S : List Int}
theorem Nr.add (N : Nr n f g p) (hm : ∀ j, 0 ≤ m j) (hf : ∀ j, 0 ≤ j → j < n.a → f' j = f j + m j) (hg : ∀ j, 0 ≤ j → j < n.a → g' j = g j + m j) (h : NetOk n) : Nr n f' g' p := by
  refine ⟨N.p0, fun t T x x0 x1 hx => ?_, fun i i0 i1 => by rw [N.ch i i0 i1]; unfold gapF; rw [hf i i0 i1, hg i i0 i1]; grind⟩
  obtain ⟨s, _, W⟩ := can_be_eq (f := f) h (deeds_all h)
  refine wet_mono W T (fun y hy => (T.wi y).mpr (.inl ?_)) (fun y hy => W.fd y hy) x (N.ab s W x x0 x1 hx)
  obtain ⟨r, q⟩ := mem_wt.mp hy
  refine mem_wt.mpr ⟨r, ?_⟩
  rw [hf y r.1 r.2]
  have := hm y
  grind
end
def tB : Nat := 2 ^ 72
end Fl
namespace Fl
open PySem PySem.Spec PyProof.Rows L2
def tpD : D → Option (List D)
  | .tup ds => some ds
  | _ => none
end Fl
namespace Fl
open PySem PySem.Spec PyProof.Rows L2
end Fl
namespace Fl
open PySem
open Ty (enc)
section
variable {α γ : Type} [Ty α] [Ty γ]
instance [EqP α] : EqP (T1 α) := ⟨fun t => .tuple [EqP.py t.a], fun t => by simp [enc, toPy, toPyL, EqP.to], 1 + EqP.dep α, fun t => by
    have := EqP.hdep t.a
    simp [PyData.depth, PyData.depthAll]; omega, fun t => EqP.ok t.a, fun t h => by
    simp [PyData.canLay0, PyData.canLayAll0, EqP.lay _ h], fun a b => by
    cases a; cases b; simp [PyData.eqv, PyData.eqvAll, EqP.eq]⟩
end
end Fl
namespace Fl
open PySem PySem.Spec PyProof.Rows L2
open Ty (enc)
class PyQ (α : Type) [Ty α] where
  py : α → PyData
  to : ∀ a, toPy (enc a) = some (py a)
  dep : Nat
  hdep : ∀ a, (py a).depth ≤ dep
  ok : α → Bool
  lay : ∀ a, ok a = true → (py a).canLay0 = true
section
variable {α γ : Type} [Ty α] [Ty γ] {μ ν : Md}
instance (priority := low) [EqP α] : PyQ α := ⟨EqP.py, EqP.to, EqP.dep α, EqP.hdep, EqP.ok, EqP.lay⟩
instance [PyQ α] [PyQ γ] : PyQ (U2 α γ) := ⟨fun u => match u with | .a x => PyQ.py x | .b x => PyQ.py x, fun u => by cases u with | a x => exact PyQ.to x | b x => exact PyQ.to x, max (PyQ.dep α) (PyQ.dep γ), fun u => by
    cases u with
    | a x => have := PyQ.hdep x; dsimp only; omega
    | b x => have := PyQ.hdep x; dsimp only; omega, fun u => match u with | .a x => PyQ.ok x | .b x => PyQ.ok x, fun u h => by cases u with | a x => exact PyQ.lay x h | b x => exact PyQ.lay x h⟩
instance [PyQ α] [PyQ γ] : PyQ (T2 α γ) := ⟨fun t => .tuple [PyQ.py t.a, PyQ.py t.b], fun t => by simp [enc, toPy, toPyL, PyQ.to], 1 + max (PyQ.dep α) (PyQ.dep γ), fun t => by
    have := PyQ.hdep t.a; have := PyQ.hdep t.b
    simp [PyData.depth, PyData.depthAll]; omega, fun t => PyQ.ok t.a && PyQ.ok t.b, fun t h => by
    have := Bool.and_eq_true_iff.mp h
    simp [PyData.canLay0, PyData.canLayAll0, PyQ.lay _ this.1, PyQ.lay _ this.2]⟩
theorem pyQ_listD [PyQ α] (xs : List α) : (PyData.list (xs.map PyQ.py)).depth ≤ 1 + PyQ.dep α := by
  have : PyData.depthAll (xs.map PyQ.py) ≤ PyQ.dep α := by
    induction xs with
    | nil => simp [PyData.depthAll]
    | cons a xs ih => have := PyQ.hdep a; simp [PyData.depthAll]; omega
  simp [PyData.depth]; omega
instance [PyQ α] : PyQ (List α) := ⟨fun xs => .list (xs.map PyQ.py), fun xs => by
    have : toPyL (xs.map fun a => (enc a : D)) = some (xs.map PyQ.py) := by
      induction xs with
      | nil => rfl
      | cons a xs ih => simp [toPyL, PyQ.to, ih]
    simp [enc, toPy, this], 1 + PyQ.dep α, pyQ_listD, fun xs => xs.all PyQ.ok, fun xs h => by
    have : PyData.canLayAll0 (xs.map PyQ.py) = true := by
      induction xs with
      | nil => rfl
      | cons a xs ih =>
        have := Bool.and_eq_true_iff.mp h
        simp [PyData.canLayAll0, PyQ.lay _ this.1, ih this.2]
    simp [PyData.canLay0, this]⟩
end
end Fl
namespace Fl
end Fl
set_option synthInstance.maxHeartbeats 400000
set_option synthInstance.maxSize 4000
namespace Fl
open PySem PySem.Spec PyProof.Rows L2
open Ty (enc)
end Fl
namespace Fl
open PySem PySem.Spec PyProof.Rows L2 Sim
open Ty (enc)
end Fl
namespace Fl
open PySem PySem.Spec PyProof.Rows L2 Sim
open Ty (enc)
end Fl
namespace Fl
open PySem PySem.Spec PyProof.Rows L2 Sim
open Ty (enc)
section
variable {n : Net} {f g p : RowF} {D Z s : Nat} {w y : Rat}
theorem p2 (a b : Nat) : 2 ^ a * 2 ^ b = 2 ^ (a + b) := (Nat.pow_add 2 a b).symm
theorem lt2 {x a b : Nat} (h : x < 2 ^ a) (hab : a ≤ b) : x < 2 ^ b := Nat.lt_of_lt_of_le h (Nat.pow_le_pow_right (by decide) hab)
end
end Fl
namespace Fl
open PySem PySem.Spec PyProof.Rows L2 Sim
open Ty (enc)
section
variable {n : Net} {f g p : RowF} {D Z : Nat}
def Cn (n : Net) (c : RowF) : Prop := ∃ p : RowF, (∀ d, 0 ≤ p d) ∧ ∀ i, 0 ≤ i → i < n.a → chP n p i = c i
theorem Cn.congr {c d : RowF} (h : Cn n c) (e : ∀ i, 0 ≤ i → i < n.a → c i = d i) : Cn n d := by
  obtain ⟨p, p0, hp⟩ := h
  exact ⟨p, p0, fun i i0 i1 => (hp i i0 i1).trans (e i i0 i1)⟩
theorem Cn.zero : Cn n (fun _ => 0) := ⟨fun _ => 0, fun _ => Rat.le_refl, fun i _ _ => qs_zero fun d _ => by grind⟩
theorem Cn.add {c d : RowF} (h : Cn n c) (k : Cn n d) : Cn n (fun i => c i + d i) := by
  obtain ⟨p, p0, hp⟩ := h
  obtain ⟨q, q0, hq⟩ := k
  exact ⟨fun d => p d + q d, fun d => Rat.add_nonneg (p0 d) (q0 d), fun i i0 i1 => by rw [chP_add, hp i i0 i1, hq i i0 i1]⟩
theorem qs_sub (f g : Nat → Rat) (k : Nat) : (qs k fun i => f i - g i) = qs k f - qs k g := by
  have h1 := qs_add f (fun i => -1 * g i) k
  rw [qs_mul (-1) g k] at h1
  have h2 : (qs k fun i => f i - g i) = qs k fun i => f i + -1 * g i := qs_congr fun i _ => by grind
  rw [h2, h1]; grind
end
end Fl
namespace Fl
open PySem PySem.Spec PyProof.Rows L2 PySem.W
section
variable {prog : Program} {w : World} {A : Around} {E : Value → Shared → Prop} {s : Shared}
theorem IntRow.keeps {h h' : Heap} {v u : Value} {x : Int} (r : IntRow h v x u) (k : ∀ b o, h.get? b = some o → o.cls = .type "tuple" → h'.get? b = some o) : IntRow h' v x u := by
  obtain ⟨a, t, e, o, ho, hc, n, hd⟩ := r
  exact ⟨a, t, e, o, k _ _ ho hc, hc, n, hd⟩
theorem ir_cmp {vs : List Value} {k : Value → Int} (x : ∀ v ∈ vs, ∃ u, IntRow s.heap v (k v) u) (dd : ∀ v ∈ vs, ∀ v' ∈ vs, k v = k v' → v = v') : SrtO.Cmp prog w A s (tuples' true) (fun p => p.1 ∈ vs) (SrtO.lt2 fun v u => decide (k v < k u)) := by
  intro p q mp mq
  show wpAny (model prog w) A (keyLt' (tuples' true) p.1 q.1) (fun r s' => s' = s ∧ r = decide (k p.1 < k q.1)) (fun _ _ => False) s
  obtain ⟨u, a, t, e1, r1⟩ := x _ mp
  obtain ⟨u', a', t', e2, r2⟩ := x _ mq
  have hd := dd _ mp _ mq
  generalize k p.1 = y at r1 hd ⊢
  generalize k q.1 = z at r2 hd ⊢
  rw [e1, e2] at hd ⊢
  obtain ⟨o, ho, hc, n, hdt⟩ := id r1
  obtain ⟨o', ho', hc', n', hdt'⟩ := id r2
  refine kat_lt ho hdt ho' hdt' ?_
  show KatLex prog w A true (decide (2 < 2)) _ [(.int y t, .int z t'), (u, u')] 0 s
  refine kat_cons (SeqAt.EqAt.int_int y t z t' prog w _ _ ?_)
  refine kat_go (fun e => ?_) (fun e => ?_)
  · have ex : y = z := by simpa using e
    have ea := hd ex
    have e3 : a = a' := by injection ea
    subst e3
    have e4 := isTup_two r1 r2
    have e5 : u = u' := by simp at e4; exact e4.2
    subst e5
    have irr : decide (y < z) = false := by rw [ex]; exact decide_eq_false (Int.lt_irrefl _)
    refine kat_yes (kat_cons (SeqAt.EqAt.same u prog w _ _ ?_))
    exact kat_go (fun _ => kat_yes (kat_nil ⟨rfl, irr.symm⟩)) (fun e => by cases e)
  · exact kat_no (oneLt_int ⟨rfl, rfl⟩)
theorem ir_swo {k : Value → Int} : SrtO.Swo fun v u => decide (k v < k u) := by
  refine ⟨fun x y h => ?_, fun x y z h1 h2 => ?_⟩
  · have := of_decide_eq_true h
    exact decide_eq_false (by omega)
  · have a := of_decide_eq_false h1
    have b := of_decide_eq_false h2
    exact decide_eq_false (by omega)
theorem ir_sortable {a : Addr} {vs : List Value} {k : Value → Int} (h0 : 0 < vs.length) (x : ∀ v ∈ vs, ∃ u, IntRow s.heap v (k v) u) (dd : ∀ v ∈ vs, ∀ v' ∈ vs, k v = k v' → v = v') (ha : ∀ o, s.heap.get? a = some o → o.cls ≠ .type "tuple") : SrtO.SortableO prog w A s a vs fun v u => decide (k v < k u) := by
  intro h' keep
  have hp' : ∀ v ∈ vs, ∃ u, IntRow h' v (k v) u := fun v hm => by
    obtain ⟨u, r⟩ := x v hm
    exact ⟨u, r.keeps fun b o e c => keep b o (fun z => by subst z; exact ha o e c) e⟩
  obtain ⟨fs, h1, h2, h3⟩ := firsts_ir vs fun v hm => ⟨_, hp' v hm⟩
  refine ⟨tuples' true, fun Q E hq => ?_, ir_cmp (s := { s with heap := h' }) hp' dd⟩
  refine kat_kind (T := .type "int") h1 (by omega) (fun f hm => ?_) (by rfl) ?_
  · obtain ⟨x, t, rfl⟩ := h3 f hm
    exact Looks.now
  · have e : (Value.type "int" != Value.type "tuple") = true := by first | decide +kernel | rfl | decide
    rw [e]
    exact hq
end
theorem paired_zip {α : Type} {R : V → Value → Prop} {f : α → V} : ∀ {ys : List α} {its : List Value}, Paired R (ys.map f) its → ∃ L : List (α × Value), L.map Prod.fst = ys ∧ L.map Prod.snd = its ∧ ∀ z ∈ L, R (f z.1) z.2
  | [], its, h => by cases h; exact ⟨[], rfl, rfl, by simp⟩
  | y :: ys, its, h => by
    cases h with
    | cons h1 h2 =>
      rename_i b l
      obtain ⟨L, e1, e2, e3⟩ := paired_zip h2
      refine ⟨(y, b) :: L, by simp [e1], by simp [e2], fun z hz => ?_⟩
      rcases List.mem_cons.mp hz with rfl | hz
      · exact h1
      · exact e3 z hz
/-- what stands in a row: the tuple, its first, its second -/
abbrev Row3 := V × Int × V
def rSortT (K : PySem.W.Frag) : List V → Hp → VK → Prop := fun vs H Q => ∃ (a : Addr) (ys : List Row3), vs = [.ref a] ∧ SqL K H a (ys.map Prod.fst) ∧ (∀ y ∈ ys, ∃ t, y.1 = .ref t ∧ SqT K H t [.int y.2.1, y.2.2]) ∧ (ys.map fun y => y.2.1).Nodup ∧
  ∀ (zs : List Row3) (p : Addr), zs.Perm ys → zs.Pairwise (fun a b => a.2.1 ≤ b.2.1) → H p = none → Q (.ref p) (L2.upd H p (.lst (zs.map Prod.fst)))
section
variable {X : Cx}
theorem cr_sortT : CallR X (.builtin "sorted") (rSortT X.K) := by
  intro pins s σ H vs us Q I r h
  obtain ⟨a, ys, rfl, hs, hx, nd, q⟩ := h
  obtain ⟨its, rv, hl, hz⟩ := I.list hs
  rw [Vals.ref1 r]
  obtain ⟨L, l1, l2, l3⟩ := paired_zip rv
  have row : ∀ z ∈ L, ∃ u, IntRow s.heap z.2 z.1.2.1 u := fun z hm => by
    obtain ⟨t, e, ht⟩ := hx z.1 (by rw [← l1]; exact List.mem_map.mpr ⟨z, hm, rfl⟩)
    have h1 := l3 z hm
    rw [e] at h1
    obtain ⟨its2, r2, o2, _⟩ := I.tuple ht
    obtain ⟨u1, u2, rfl, ri, rj⟩ := vals2 r2
    obtain ⟨t1, rfl⟩ := ri
    have e2 : z.2 = Value.ref t := h1
    exact ⟨u2, t, t1, e2, o2⟩
  have key : ∀ z ∈ L, rowK s.heap z.2 = z.1.2.1 := fun z hm => by
    obtain ⟨u, r⟩ := row z hm
    exact r.key
  have ndL : (L.map fun z => z.1.2.1).Nodup := by
    have : (L.map fun z => z.1.2.1) = (L.map Prod.fst).map fun y : Row3 => y.2.1 := by rw [List.map_map]; rfl
    rw [this, l1]; exact nd
  have back : ∀ v ∈ its, ∃ z ∈ L, z.2 = v := fun v hv => by
    rw [← l2] at hv
    obtain ⟨z, hz, e⟩ := List.mem_map.mp hv
    exact ⟨z, hz, e⟩
  have hp : ∀ v ∈ its, ∃ u, IntRow s.heap v (rowK s.heap v) u := fun v hv => by
    obtain ⟨z, hz, rfl⟩ := back v hv
    rw [key z hz]; exact row z hz
  have dd : ∀ v ∈ its, ∀ v' ∈ its, rowK s.heap v = rowK s.heap v' → v = v' := fun v hv v' hv' e => by
    obtain ⟨z, hz, rfl⟩ := back v hv
    obtain ⟨z', hz', rfl⟩ := back v' hv'
    rw [key z hz, key z' hz'] at e
    obtain ⟨i, hi, e1⟩ := List.getElem_of_mem hz
    obtain ⟨j, hj, e2⟩ := List.getElem_of_mem hz'
    have : i = j := (List.getElem_inj (xs := L.map fun z => z.1.2.1) (h₀ := by simpa using hi) (h₁ := by simpa using hj) ndL).mp (by simp [e1, e2, e])
    subst this
    rw [← e1, ← e2]
  have hlen : its.length = ys.length := by have := rv.length; simpa using this.symm
  refine SrtO.sorted_ord (ir_swo (k := rowK s.heap)) hl.isList (by rw [← rv.length]; exact hz) (fun h2 h₁ a' ha kk => ?_) fun out h1 h2 => ?_
  · refine ir_sortable (s := { s with heap := h₁ }) (by omega) (fun v hm => ?_) dd fun o e => ?_
    · obtain ⟨u, r⟩ := hp v hm
      exact ⟨u, r.keeps fun b o e _ => (kk b o e).2⟩
    · have e' : some o = some (seqObj "list" its.toArray 0) := e.symm.trans ha
      cases e'
      intro c
      exact absurd (Value.type.inj c) (by decide)
  · obtain ⟨L', pL, eL⟩ := perm_lift Prod.snd h2.perm L l2
    obtain ⟨ep, he'⟩ := PyProof.Rows.sortedAll_at s.heap its out.toArray
    have hzs : (L'.map Prod.fst).Perm ys := by rw [← l1]; exact pL.map _
    have hso : (L'.map Prod.fst).Pairwise fun a b => a.2.1 ≤ b.2.1 := by
      rw [List.pairwise_map]
      have h1' : out.Pairwise (fun x y => decide (rowK s.heap y < rowK s.heap x) = false) := h1
      rw [← eL, List.pairwise_map] at h1'
      refine List.Pairwise.imp_of_mem (fun {x y} hx hy h => ?_) h1'
      have a := of_decide_eq_false h
      rw [key x (pL.mem_iff.mp hx), key y (pL.mem_iff.mp hy)] at a
      omega
    have vo : Vals ((L'.map Prod.fst).map Prod.fst) out := by
      rw [← eL]
      have : ∀ l : List (Row3 × Value), (∀ z ∈ l, RelV z.1.1 z.2) → Vals ((l.map Prod.fst).map Prod.fst) (l.map Prod.snd) := fun l => by
        induction l with
        | nil => exact fun _ => .nil
        | cons z l ih => exact fun h => .cons (h z (by simp)) (ih fun y hy => h y (List.mem_cons_of_mem _ hy))
      exact this L' fun z hz => l3 z (pL.mem_iff.mp hz)
    have hlen2 : ((L'.map Prod.fst).map Prod.fst).length ≤ sizeLine := by
      have h5 := pL.length_eq
      have h6 := congrArg List.length l1
      rw [List.length_map] at hz h6
      rw [List.length_map, List.length_map]
      omega
    exact ⟨.ref _, L2.upd H (s.heap.objs.size + 1) (.lst ((L'.map Prod.fst).map Prod.fst)), I.laid (t' := s.toks) (fun _ _ => PyProof.Rows.sortedAll_old) (Nat.le_succ _) ⟨hlen2, out, ep, vo, he'⟩, rfl, q _ _ hzs hso (I.hok.fresh (Nat.le_succ _))⟩
end
def keyT : D → Option (Int × D)
  | .tup [.int i, e] => some (i, .tup [.int i, e])
  | _ => none
def keysT : List D → Option (List (Int × D))
  | [] => some []
  | d :: ds => (keyT d).bind fun r => (keysT ds).map (r :: ·)
def leK (a b : Int × D) : Bool := decide (a.1 ≤ b.1)
def gSortT (c : D) : Option D := (lsD c).bind fun ds => (keysT ds).bind fun rs => if (rs.map Prod.fst).Nodup then some (.lst true ((rs.mergeSort leK).map Prod.snd)) else none
section
variable {K : PySem.W.Frag} {Hs H : Hp}
theorem keyT_inv {d : D} {r : Int × D} (h : keyT d = some r) : ∃ e, d = .tup [.int r.1, e] ∧ r.2 = d := by
  unfold keyT at h
  split at h
  · cases h; exact ⟨_, rfl, rfl⟩
  · cases h
theorem rl_rowsT (o : ∀ a o, Hs a = some o → H a = some o) : ∀ {ds : List D} {vs : List V} {rs : List (Int × D)}, RL K Hs H vs ds [] → keysT ds = some rs → ∃ L : List (Row3 × (Int × D)), L.map (fun z => z.1.1) = vs ∧ L.map Prod.snd = rs ∧ ∀ z ∈ L, z.1.2.1 = z.2.1 ∧ RL K Hs H [z.1.1] [z.2.2] [] ∧ ∃ t, z.1.1 = .ref t ∧ SqT K H t [.int z.1.2.1, z.1.2.2]
  | [], vs, rs, r, h => by cases r; cases h; exact ⟨[], rfl, rfl, by simp⟩
  | d :: ds, vs, rs, r, h => by
    obtain ⟨q, h1, h2⟩ := two_bind (γ := Nat) h
    obtain ⟨rs', h3, rfl⟩ := two_map h2
    cases vs with
    | nil => cases r
    | cons v vs =>
      obtain ⟨B1, B2, hB, r1, r2⟩ := RL.un r
      have hb := List.append_eq_nil_iff.mp hB.symm
      rw [hb.1] at r1; rw [hb.2] at r2
      obtain ⟨L, l1, l2, l3⟩ := rl_rowsT o r2 h3
      obtain ⟨e, rfl, e2⟩ := keyT_inv h1
      have r1' := r1
      obtain ⟨p, xs, rfl, g1, g2⟩ := r1.tup_inv
      have g3 := g2
      cases xs with
      | nil => cases g3
      | cons x xs =>
        obtain ⟨C1, C2, _, s1, s2⟩ := RL.un g3
        have ex : x = .int q.1 := s1.int
        cases xs with
        | nil => cases s2
        | cons x2 xs =>
          obtain ⟨C3, C4, _, s3, s4⟩ := RL.un s2
          cases xs with
          | cons _ _ => cases s4
          | nil =>
            refine ⟨((.ref p, q.1, x2), q) :: L, by simp [l1], by simp [l2], fun z hz => ?_⟩
            rcases List.mem_cons.mp hz with rfl | hz
            · refine ⟨rfl, by rw [e2]; exact r1', p, rfl, ?_⟩
              rw [ex] at g1
              exact ext_t o g1
            · exact l3 z hz
theorem rl_all : ∀ {L : List (Row3 × (Int × D))}, (∀ z ∈ L, RL K Hs H [z.1.1] [z.2.2] []) → RL K Hs H (L.map fun z => z.1.1) (L.map fun z => z.2.2) []
  | [], _ => .nil
  | z :: L, h => (h z (by simp)).cons (rl_all fun y hy => h y (List.mem_cons_of_mem _ hy))
theorem cg_sortT : CaG K (rSortT K) gSortT := by
  intro Hs H v c B C d r o h Q k
  obtain ⟨ds, h1, h2⟩ := two_bind (γ := Nat) h
  obtain ⟨rs, h3, h6⟩ := two_bind (γ := Nat) h2
  split at h6
  case isFalse => cases h6
  case isTrue hnd =>
  cases h6
  obtain ⟨p, xs, rfl, h4, h5⟩ := r.lsItems o.sub h1
  obtain ⟨L, l1, l2, l3⟩ := rl_rowsT o.sub h5 h3
  have ek : (L.map Prod.fst).map (fun y : Row3 => y.2.1) = rs.map Prod.fst := by
    rw [← l2, List.map_map, List.map_map]
    exact List.map_congr_left fun z hz => (l3 z hz).1
  refine ⟨p, L.map Prod.fst, rfl, ?_, fun y hy => ?_, ?_, fun zs q hp hw hq => ?_⟩
  · have : (L.map Prod.fst).map (Prod.fst : Row3 → V) = xs := by rw [List.map_map]; exact l1
    rw [this]; exact h4
  · obtain ⟨z, hz, rfl⟩ := List.mem_map.mp hy
    exact (l3 z hz).2.2
  · rw [ek]; exact hnd
  · obtain ⟨L', pL, eL⟩ := perm_lift Prod.fst hp L rfl
    have e1 : L'.map Prod.snd = rs.mergeSort leK := by
      have hperm : (L'.map Prod.snd).Perm (rs.mergeSort leK) := by
        refine (pL.map _).trans ?_
        rw [l2]
        exact (List.mergeSort_perm rs leK).symm
      have hs1 : (L'.map Prod.snd).Pairwise fun a b => a.1 ≤ b.1 := by
        rw [List.pairwise_map]
        have hw' := hw
        rw [← eL, List.pairwise_map] at hw'
        refine List.Pairwise.imp_of_mem (fun {x y} hx hy h => ?_) hw'
        have a1 := (l3 x (pL.mem_iff.mp hx)).1
        have a2 := (l3 y (pL.mem_iff.mp hy)).1
        omega
      have hs2 : (rs.mergeSort leK).Pairwise fun a b => a.1 ≤ b.1 := (List.pairwise_mergeSort (le := leK) (by intro a b c; simp [leK]; omega) (by intro a b; simp [leK]; omega) rs).imp (by simp [leK])
      refine hperm.eq_of_pairwise (fun a b ha hb p q => ?_) hs1 hs2
      have ha' : a ∈ rs := by
        rw [← l2]; exact (pL.map Prod.snd).mem_iff.mp ha
      have hb' : b ∈ rs := (List.mergeSort_perm rs leK).mem_iff.mp hb
      obtain ⟨i, hi, e1⟩ := List.getElem_of_mem ha'
      obtain ⟨j, hj, e2⟩ := List.getElem_of_mem hb'
      have : i = j := (List.getElem_inj (xs := rs.map Prod.fst) (h₀ := by simpa using hi) (h₁ := by simpa using hj) hnd).mp (by simp [e1, e2]; omega)
      subst this
      rw [← e1, ← e2]
    have e2 : zs.map Prod.fst = L'.map fun z => z.1.1 := by rw [← eL, List.map_map]; rfl
    have e3 : (rs.mergeSort leK).map Prod.snd = L'.map fun z => z.2.2 := by rw [← e1, List.map_map]; rfl
    rw [e2]
    rw [e3] at k
    exact new_lst (rl_all fun z hz => (l3 z (pL.mem_iff.mp hz)).2.1) o k q hq
end
end Fl
namespace Fl
open PySem
open Ty (enc)
section
variable {α : Type} [Ty α]
def lePr (a b : T2 Int α) : Bool := decide (a.a ≤ b.a)
def sortPM (xs : List (T2 Int α)) : M (List (T2 Int α)) := if (xs.map T2.a).Nodup then .ok (xs.mergeSort lePr) else .no
theorem keysT_enc : ∀ xs : List (T2 Int α), keysT (xs.map enc) = some (xs.map fun x => (x.a, (enc x : D)))
  | [] => rfl
  | x :: xs => by
    have h : keyT (enc x) = some (x.a, enc x) := rfl
    simp only [List.map_cons, keysT, h, Option.bind_some, keysT_enc xs, Option.map_some]
theorem oi_sortP [Flat α] {xs : List (T2 Int α)} : Op1I gSortT (enc xs) (sortPM xs) .cl := fun d h hv => by
  unfold sortPM at hv ⊢
  split
  · rename_i hn
    refine ⟨_, .lst true ((xs.mergeSort lePr).map enc), rfl, ?_, is_lstF (by rw [shLmap, List.map_map]; exact List.map_congr_left fun a _ => Ty.can a)⟩
    unfold gSortT
    rw [lsI h]
    simp only [Option.bind_some, keysT_enc]
    have e1 : ((xs.map fun x => (x.a, (enc x : D))).map Prod.fst) = xs.map T2.a := by rw [List.map_map]; rfl
    rw [e1, if_pos hn]
    have e2 : (xs.map fun x => (x.a, (enc x : D))).mergeSort leK = (xs.mergeSort lePr).map fun x => (x.a, (enc x : D)) := (List.map_mergeSort (r := lePr) (s := leK) (f := fun x : T2 Int α => (x.a, (enc x : D))) (l := xs) (fun a _ b _ => rfl)).symm
    rw [e2, List.map_map]; rfl
  · rename_i hn; rw [if_neg hn] at hv; exact absurd rfl hv
end
end Fl
namespace Fl
open PySem
open Ty (enc)
end Fl
namespace Fl
open PySem
open Ty (enc)
end Fl
namespace Fl
open PySem PySem.Spec PyProof.Rows L2
end Fl
namespace Fl
open PySem
open Ty (enc)
end Fl
namespace Fl
open PySem PySem.Spec PyProof.Rows L2
end Fl
namespace Fl
open PySem
open Ty (enc)
end Fl
namespace Fl
open PySem PySem.Spec PyProof.Rows L2
end Fl
namespace Fl
open PySem
open Ty (enc)
end Fl
namespace Fl
open PySem PySem.Spec PyProof.Rows L2
end Fl
namespace Fl
open PySem
open Ty (enc)
end Fl
namespace Fl
open PySem PySem.Spec PyProof.Rows L2 Sim
structure Iso (n n' : Net) (σ σi τ τi : Int → Int) : Prop where
  h : NetOk n
  h' : NetOk n'
  sr : ∀ q : Int, 0 ≤ q → q < n'.a → (0 ≤ σ q ∧ σ q < n.a) ∧ σi (σ q) = q
  si : ∀ p : Int, 0 ≤ p → p < n.a → (0 ≤ σi p ∧ σi p < n'.a) ∧ σ (σi p) = p
  tr : ∀ k : Int, 0 ≤ k → k < n'.b.length → (0 ≤ τ k ∧ τ k < n.b.length) ∧ τi (τ k) = k
  ti : ∀ d : Int, 0 ≤ d → d < n.b.length → (0 ≤ τi d ∧ τi d < n'.b.length) ∧ τ (τi d) = d
  tk : ∀ k : Int, 0 ≤ k → k < n'.b.length → ∀ q : Int, 0 ≤ q → q < n'.a → (q ∈ tkN n' k ↔ σ q ∈ tkN n (τ k))
  gv : ∀ k : Int, 0 ≤ k → k < n'.b.length → ∀ q : Int, 0 ≤ q → q < n'.a → (q ∈ gvN n' k ↔ σ q ∈ gvN n (τ k))
  ch : ∀ k : Int, 0 ≤ k → k < n'.b.length → ∀ q : Int, 0 ≤ q → q < n'.a → chg (dd n' k) q = chg (dd n (τ k)) (σ q)
  sm : ∀ u : Int → Rat, (qs n'.b.length fun k => u (τ k)) = qs n.b.length fun d => u d
section
variable {n n' : Net} {σ σi τ τi : Int → Int} {f g f' g' : RowF} {S l : List Int}
theorem tk_turnq {n : Net} {x : Int} : tkN (turnN n) x = gvN n x ∧ gvN (turnN n) x = tkN n x := by
  unfold tkN gvN; rw [dd_turn]; exact ⟨rfl, rfl⟩
theorem Iso.turn (I : Iso n n' σ σi τ τi) : Iso (turnN n) (turnN n') σ σi τ τi := by
  refine ⟨I.h.turn, I.h'.turn, I.sr, I.si, ?_, ?_, ?_, ?_, ?_, ?_⟩
  · rw [len_turn, len_turn]; exact I.tr
  · rw [len_turn, len_turn]; exact I.ti
  · rw [len_turn]; intro k k0 k1 q q0 q1; rw [tk_turnq.1, tk_turnq.1]; exact I.gv k k0 k1 q q0 q1
  · rw [len_turn]; intro k k0 k1 q q0 q1; rw [tk_turnq.2, tk_turnq.2]; exact I.tk k k0 k1 q q0 q1
  · rw [len_turn]; intro k k0 k1 q q0 q1; rw [chg_turn, chg_turn, I.ch k k0 k1 q q0 q1]
  · rw [len_turn, len_turn]; exact I.sm
theorem Iso.symm (I : Iso n n' σ σi τ τi) : Iso n' n σi σ τi τ := by
  refine ⟨I.h', I.h, I.si, I.sr, I.ti, I.tr, ?_, ?_, ?_, ?_⟩
  · intro d d0 d1 p p0 p1
    have t := I.ti d d0 d1
    have s := I.si p p0 p1
    have := I.tk (τi d) t.1.1 t.1.2 (σi p) s.1.1 s.1.2
    rw [s.2, t.2] at this; exact this.symm
  · intro d d0 d1 p p0 p1
    have t := I.ti d d0 d1
    have s := I.si p p0 p1
    have := I.gv (τi d) t.1.1 t.1.2 (σi p) s.1.1 s.1.2
    rw [s.2, t.2] at this; exact this.symm
  · intro d d0 d1 p p0 p1
    have t := I.ti d d0 d1
    have s := I.si p p0 p1
    have := I.ch (τi d) t.1.1 t.1.2 (σi p) s.1.1 s.1.2
    rw [s.2, t.2] at this; exact this.symm
  · intro u
    rw [← I.sm fun d => u (τi d)]
    exact qs_congr fun k hk => by rw [(I.tr k (by omega) (by omega)).2]
/-- the deeds of the other net that stand for these -/
def isoS (n' : Net) (τ : Int → Int) (S : List Int) : List Int := (rg 0 (n'.b.length : Int)).filter fun k => decide (τ k ∈ S)
theorem mem_isoS {k : Int} : k ∈ isoS n' τ S ↔ (0 ≤ k ∧ k < n'.b.length) ∧ τ k ∈ S := by simp [isoS, mem_rg]
theorem isoS_ok (h' : NetOk n') : DeedsOk n' (isoS n' τ S) := (deeds_all h').sub List.filter_sublist
theorem isoS_so : (isoS n' τ S).Pairwise (· < ·) := (rg_lt 0 _).filter _
theorem Iso.all (I : Iso n n' σ σi τ τi) (hf : ∀ q, 0 ≤ q → q < n'.a → f' q = f (σ q)) (hS : ∀ x ∈ S, 0 ≤ x ∧ x < n.b.length) (A : AllBy n f S) : AllBy n' f' (isoS n' τ S) := by
  refine allBy_of I.h' (isoS_ok I.h') isoS_so fun t B y hy => ?_
  obtain ⟨s, W, q⟩ := A.mem
  have key : ∀ k (hk : k < s.2.1.length), τi s.2.1[k] ∈ t.2.1 := fun k => by
    induction k using Nat.strongRecOn with
    | ind k ih =>
      intro hk
      have hm : s.2.1[k] ∈ S := W.fd _ (List.getElem_mem hk)
      have rd := hS _ hm
      have t1 := I.ti _ rd.1 rd.2
      refine B.cl _ (mem_isoS.mpr ⟨t1.1, by rw [t1.2]; exact hm⟩) fun p hp => ?_
      have rp := I.h'.tkr _ p hp
      have hp2 := (I.tk _ t1.1.1 t1.1.2 p rp.1 rp.2).mp hp
      rw [t1.2] at hp2
      have sp := I.sr p rp.1 rp.2
      rcases W.od k hk (σ p) hp2 with h1 | ⟨j, hj, hjk, h1⟩
      · refine (B.wi p).mpr (.inl ?_)
        have := (mem_wt.mp h1).2
        exact mem_wt.mpr ⟨rp, by rw [hf p rp.1 rp.2]; exact this⟩
      · have hj' := ih j hjk hj
        have hmj : s.2.1[j] ∈ S := W.fd _ (List.getElem_mem hj)
        have rj := hS _ hmj
        have tj := I.ti _ rj.1 rj.2
        refine (B.wi p).mpr (.inr ⟨_, hj', (I.gv _ tj.1.1 tj.1.2 p rp.1 rp.2).mpr ?_⟩)
        rw [tj.2]; exact h1
  obtain ⟨ry, hy2⟩ := mem_isoS.mp hy
  obtain ⟨k, hk, e⟩ := List.getElem_of_mem (q _ hy2)
  have := key k hk
  rw [e, (I.tr y ry.1 ry.2).2] at this
  exact this
theorem Iso.fit (I : Iso n n' σ σi τ τi) (hf : ∀ q, 0 ≤ q → q < n'.a → f' q = f (σ q)) (hg : ∀ q, 0 ≤ q → q < n'.a → g' q = g (σ q)) (F : Fit n f g S) : Fit n' f' g' (isoS n' τ S) := by
  obtain ⟨p, p0, pp, pc⟩ := F.pp
  refine ⟨fun x hx => (mem_isoS.mp hx).1, ⟨onK n' fun k => p (τ k), fun x => ?_, fun x => ?_, fun i i0 i1 => ?_⟩, I.all hf F.rg F.w1, ?_⟩
  · unfold onK; split
    · exact p0 _
    · exact Rat.le_refl
  · rw [mem_isoS, ← pp]
    unfold onK
    split
    · rename_i h; exact ⟨fun q => ⟨h, q⟩, fun q => q.2⟩
    · rename_i h; exact ⟨fun q => absurd q (Rat.lt_irrefl), fun q => absurd q.1 h⟩
  · have s := I.sr i i0 i1
    rw [chP_in (p := onK n' fun k => p (τ k)) (q := fun k => p (τ k)) (fun d d0 d1 => by unfold onK; exact if_pos ⟨d0, d1⟩)]
    have e : chP n' (fun k => p (τ k)) i = chP n p (σ i) := by
      unfold chP
      rw [← I.sm fun d => p d * chg (dd n d) (σ i)]
      exact qs_congr fun k hk => by rw [I.ch k (by omega) (by omega) i i0 i1]
    rw [e, pc (σ i) s.1.1 s.1.2]; unfold gapF; rw [hf i i0 i1, hg i i0 i1]
  · have := I.turn.all (f' := g') (f := g) (S := S) hg (fun x hx => by rw [len_turn]; exact F.rg x hx) F.w2
    unfold isoS at this
    rw [len_turn] at this
    exact this
theorem Iso.back (I : Iso n n' σ σi τ τi) (hS : ∀ x ∈ S, 0 ≤ x ∧ x < n.b.length) (x : Int) (hx : 0 ≤ x ∧ x < n.b.length) : x ∈ isoS n τi (isoS n' τ S) ↔ x ∈ S := by
  have t := I.ti x hx.1 hx.2
  rw [mem_isoS, mem_isoS, t.2]
  exact ⟨fun h => h.2.2, fun h => ⟨hx, t.1, h⟩⟩
theorem Iso.most (I : Iso n n' σ σi τ τi) (hf : ∀ q, 0 ≤ q → q < n'.a → f' q = f (σ q)) (hg : ∀ q, 0 ≤ q → q < n'.a → g' q = g (σ q)) (M : Most n f g l) : Most n' f' g' (isoS n' τ l) := by
  refine ⟨isoS_so, I.fit hf hg M.fit, fun S F x hx => ?_⟩
  have hf2 : ∀ p, 0 ≤ p → p < n.a → f p = f' (σi p) := fun p p0 p1 => by have s := I.si p p0 p1; rw [hf _ s.1.1 s.1.2, s.2]
  have hg2 : ∀ p, 0 ≤ p → p < n.a → g p = g' (σi p) := fun p p0 p1 => by have s := I.si p p0 p1; rw [hg _ s.1.1 s.1.2, s.2]
  have F2 := I.symm.fit hf2 hg2 F
  have rx := F.rg x hx
  have t := I.tr x rx.1 rx.2
  exact mem_isoS.mpr ⟨rx, M.top _ F2 _ (mem_isoS.mpr ⟨t.1, by rw [t.2]; exact hx⟩)⟩
theorem Iso.none (I : Iso n n' σ σi τ τi) (hf : ∀ q, 0 ≤ q → q < n'.a → f' q = f (σ q)) (hg : ∀ q, 0 ≤ q → q < n'.a → g' q = g (σ q)) (no : ∀ S, ¬ Fit n f g S) : ∀ S, ¬ Fit n' f' g' S := fun S F => by
  have hf2 : ∀ p, 0 ≤ p → p < n.a → f p = f' (σi p) := fun p p0 p1 => by have s := I.si p p0 p1; rw [hf _ s.1.1 s.1.2, s.2]
  have hg2 : ∀ p, 0 ≤ p → p < n.a → g p = g' (σi p) := fun p p0 p1 => by have s := I.si p p0 p1; rw [hg _ s.1.1 s.1.2, s.2]
  exact no _ (I.symm.fit hf2 hg2 F)
/-- the told deeds, taken back and sorted -/
theorem Iso.sorted (I : Iso n n' σ σi τ τi) (so : l.Pairwise (· < ·)) (hl : ∀ x ∈ l, 0 ≤ x ∧ x < n.b.length) : ((isoS n' τ l).map τ).mergeSort = l := by
  refine sort_fl ?_ so fun x => ?_
  · refine List.pairwise_map.mpr (isoS_so.imp_of_mem fun {a b} ha hb hab e => ?_)
    have ra := (mem_isoS.mp ha).1
    have rb := (mem_isoS.mp hb).1
    have := (I.tr a ra.1 ra.2).2
    rw [e, (I.tr b rb.1 rb.2).2] at this
    omega
  · rw [List.mem_map]
    constructor
    · rintro ⟨k, hk, rfl⟩; exact (mem_isoS.mp hk).2
    · intro hx
      have t := I.ti x (hl x hx).1 (hl x hx).2
      exact ⟨τi x, mem_isoS.mpr ⟨t.1, by rw [t.2]; exact hx⟩, t.2⟩
end
end Fl
namespace Fl
open PySem
open Ty (enc)
namespace Nrw
theorem q_enc (p : T2 Int Int) (c : Rat) (h : toQ p = .ok c) : enc c = enc p := by
  unfold toQ at h
  split at h
  · rename_i hc
    cases h
    show D.tup [.int _, .int _] = D.tup [.int p.a, .int p.b]
    rw [hc.1, hc.2]
  · cases h
theorem q_no (p : T2 Int Int) : (∃ c, toQ p = .ok c) ∨ toQ p = .no := by
  unfold toQ
  split
  · exact .inl ⟨_, rfl⟩
  · exact .inr rfl
instance q : Nrw (T2 Int Int) Rat := ⟨toQ, q_enc, q_no⟩
def lst {α γ : Type} [Ty α] [Ty γ] [Nrw α γ] : List α → M (List γ)
  | [] => .ok []
  | a :: xs => (nrw a).bind fun c => (lst xs).bind fun cs => .ok (c :: cs)
theorem lst_no {α γ : Type} [Ty α] [Ty γ] [Nrw α γ] : ∀ xs : List α, (∃ cs : List γ, lst xs = .ok cs) ∨ (lst xs : M (List γ)) = .no
  | [] => .inl ⟨[], rfl⟩
  | a :: xs => by
    rcases nrw_no (γ := γ) a with ⟨c, hc⟩ | hc
    · rcases lst_no (α := α) (γ := γ) xs with ⟨cs, hs⟩ | hs
      · exact .inl ⟨c :: cs, by unfold lst; rw [hc, hs]; rfl⟩
      · exact .inr (by unfold lst; rw [hc, hs]; rfl)
    · exact .inr (by unfold lst; rw [hc]; rfl)
theorem lst_enc {α γ : Type} [Ty α] [Ty γ] [Nrw α γ] : ∀ (xs : List α) (cs : List γ), lst xs = .ok cs → cs.map enc = xs.map enc
  | [], cs, h => by cases h; rfl
  | a :: xs, cs, h => by
    unfold lst at h
    rcases nrw_no (γ := γ) a with ⟨c, hc⟩ | hc
    · rcases lst_no (α := α) (γ := γ) xs with ⟨ds, hs⟩ | hs
      · rw [hc, hs] at h
        cases h
        rw [List.map_cons, List.map_cons, nrw_enc _ _ hc, lst_enc xs ds hs]
      · rw [hc, hs] at h; cases h
    · rw [hc] at h; cases h
instance list {α γ : Type} [Ty α] [Ty γ] [Nrw α γ] : Nrw (List α) (List γ) := ⟨lst, fun xs cs h => by
  rw [enc_list, enc_list, lst_enc xs cs h], lst_no⟩
end Nrw
end Fl
namespace PySem
open Sem (wp)
end PySem
namespace L2
open PySem PySem.Spec PyProof.Rows
end L2
namespace Fl
open PySem PySem.Spec PyProof.Rows L2
open Ty (enc)
end Fl
namespace Fl
open PySem PySem.Spec PyProof.Rows L2
open Ty (enc)
end Fl
namespace Fl
open PySem PySem.Spec PyProof.Rows L2 Sim
/-- an order of the first m numbers -/
structure Ord (P : List Int) (m : Nat) : Prop where
  len : P.length = m
  nd : P.Nodup
  mem : ∀ p, p ∈ P ↔ 0 ≤ p ∧ p < (m : Int)
theorem ord_of {P : List Int} {m : Nat} (h : P.Perm (rg 0 (m : Int))) : Ord P m := ⟨by rw [h.length_eq]; simp [rg], h.nodup_iff.mpr (rg_nodup 0 _), fun p => by rw [h.mem_iff, mem_rg]⟩
def sgm (P : List Int) (q : Int) : Int := P.getD q.toNat 0
def sgi (P : List Int) (p : Int) : Int := (P.idxOf p : Nat)
section
variable {P : List Int} {m : Nat}
theorem Ord.at (O : Ord P m) {q : Int} (q0 : 0 ≤ q) (q1 : q < m) : ∃ h : q.toNat < P.length, sgm P q = P[q.toNat] := by
  have h : q.toNat < P.length := by rw [O.len]; omega
  refine ⟨h, ?_⟩
  unfold sgm
  rw [List.getD_eq_getElem?_getD, List.getElem?_eq_getElem h]; rfl
theorem Ord.sr (O : Ord P m) {q : Int} (q0 : 0 ≤ q) (q1 : q < m) : (0 ≤ sgm P q ∧ sgm P q < m) ∧ sgi P (sgm P q) = q := by
  obtain ⟨h, e⟩ := O.at q0 q1
  refine ⟨(O.mem _).mp (by rw [e]; exact List.getElem_mem h), ?_⟩
  unfold sgi
  have hm : P[q.toNat] ∈ P := List.getElem_mem h
  have hlt := List.idxOf_lt_length_of_mem hm
  have : P.idxOf P[q.toNat] = q.toNat := (List.getElem_inj O.nd).mp (List.getElem_idxOf hlt)
  rw [e, this]; omega
theorem Ord.si (O : Ord P m) {p : Int} (p0 : 0 ≤ p) (p1 : p < m) : (0 ≤ sgi P p ∧ sgi P p < m) ∧ sgm P (sgi P p) = p := by
  have hm : p ∈ P := (O.mem p).mpr ⟨p0, p1⟩
  have hlt := List.idxOf_lt_length_of_mem hm
  have hl := O.len
  unfold sgi
  refine ⟨⟨by omega, by omega⟩, ?_⟩
  unfold sgm
  rw [show ((P.idxOf p : Nat) : Int).toNat = P.idxOf p by omega, List.getD_eq_getElem?_getD, List.getElem?_eq_getElem hlt]
  exact List.getElem_idxOf hlt
/-- sums in another order -/
theorem sum_ord : ∀ {A B : List Int}, A.Perm B → ∀ u : Int → Rat, (A.foldr (fun x s => u x + s) 0) = B.foldr (fun x s => u x + s) 0 := fun {A B} h u => by
  induction h with
  | nil => rfl
  | cons x _ ih => simp only [List.foldr_cons, ih]
  | swap x y l => simp only [List.foldr_cons]; grind
  | trans _ _ a b => exact a.trans b
theorem qs_list (u : Int → Rat) : ∀ {A : List Int} , (qs A.length fun k => u (A.getD k 0)) = A.foldr (fun x s => u x + s) 0 := fun {A} => by
  have key : ∀ (k : Nat), k ≤ A.length → (qs k fun i => u (A.getD i 0)) = (A.take k).foldr (fun x s => u x + s) 0 := fun k => by
    induction k with
    | zero => exact fun _ => rfl
    | succ k ih =>
      intro hk
      have fa : ∀ (L : List Int) (y : Int), (L ++ [y]).foldr (fun x s => u x + s) 0 = L.foldr (fun x s => u x + s) 0 + u y := fun L y => by
        induction L with
        | nil => show u y + 0 = 0 + u y; grind
        | cons z L ih => simp only [List.cons_append, List.foldr_cons, ih]; grind
      rw [List.take_succ_eq_append_getElem hk, fa, ← ih (by omega)]
      show qs k _ + u (A.getD k 0) = _
      rw [List.getD_eq_getElem?_getD, List.getElem?_eq_getElem hk]; rfl
  have := key A.length (Nat.le_refl _)
  rwa [List.take_length] at this
theorem rg_getD {K k : Nat} (h : k < K) : (rg 0 (K : Int)).getD k 0 = (k : Int) := by
  rw [List.getD_eq_getElem?_getD, List.getElem?_eq_getElem (by simp [rg]; omega)]
  show (rg 0 (K : Int))[k]'_ = _
  rw [get_rg, Int.zero_add]
end
def dt (m : Nat) (w : Int → Rat) (r : List Rat) : Rat := qs m fun i => w i * r.getD i 0
end Fl
namespace Fl
open PySem
open Ty (enc)
end Fl
namespace Fl
end Fl
namespace Fl
open PySem PySem.Spec PyProof.Rows L2
end Fl
namespace Fl
open PySem PySem.Spec PyProof.Rows L2
end Fl
namespace Fl
open PySem
open Ty (enc)
end Fl
namespace Fl
open PySem PySem.Spec PyProof.Rows L2
open Ty (enc)
end Fl
set_option synthInstance.maxHeartbeats 400000
set_option synthInstance.maxSize 4000
namespace Fl
open PySem PySem.Spec PyProof.Rows L2
open Ty (enc)
end Fl
namespace Fl
open PySem PySem.Spec PyProof.Rows L2 Sim
open Ty (enc)
section
variable {n : Net}
/-- a stand that is walked to -/
structure Wkd (n : Net) (N U : Nat) (f : RowF) (k : Nat) (v : List Rat) : Prop where
  ex : ∃ S : List Stp, v = vec n.a (fun j => f j + tot n S j) ∧ S.length ≤ k ∧ (∀ x ∈ S, WSp n x ∧ 0 < x.b) ∧ FineS n f S ∧ ∀ j, Dq N (U + 2 * cW * S.length) (f j + tot n S j)
theorem Wkd.mono {N U k k' : Nat} {f : RowF} {v : List Rat} (h : Wkd n N U f k v) (hk : k ≤ k') : Wkd n N U f k' v := by
  obtain ⟨S, h1, h2, h3⟩ := h.ex
  exact ⟨S, h1, by omega, h3⟩
variable {f g v w : RowF} {D Z : Nat} {l S : List Int}
end
end Fl
namespace Fl
open PySem
open Ty (enc)
end Fl
namespace Fl
open PySem PySem.Spec PyProof.Rows L2
def insA {α : Type} : Nat → α → List α → List α
  | 0, a, l => a :: l
  | _ + 1, a, [] => [a]
  | q + 1, a, b :: l => b :: insA q a l
theorem insA_len {α : Type} : ∀ (q : Nat) (a : α) (l : List α), (insA q a l).length = l.length + 1
  | 0, a, l => rfl
  | _ + 1, a, [] => rfl
  | q + 1, a, b :: l => by simp [insA, insA_len q a l]
theorem insA_get {α : Type} : ∀ (q : Nat) (a : α) (l m : List α), q ≤ l.length → (insA q a l ++ m)[q]? = some a
  | 0, a, l, m, _ => rfl
  | _ + 1, a, [], m, h => by simp at h
  | q + 1, a, b :: l, m, h => by
    show (b :: (insA q a l ++ m))[q + 1]? = _
    rw [List.getElem?_cons_succ]
    exact insA_get q a l m (by simpa using h)
theorem insA_map {α γ : Type} (f : α → γ) : ∀ (q : Nat) (a : α) (l : List α), (insA q a l).map f = insA q (f a) (l.map f)
  | 0, a, l => rfl
  | _ + 1, a, [] => rfl
  | q + 1, a, b :: l => by simp [insA, insA_map f q a l]
def spJ (K : PySem.W.Frag) (n q : Nat) (m : Fn) : Sp := fun vs' H Q _ => vs'.length = n ∧ ∃ v0 vs, vs' = insA q v0 vs ∧ q ≤ vs.length ∧ ∃ ds Hs F A p, RL K Hs H (v0 :: vs) ds A ∧ Ok Hs H (F ++ A) ∧ m ds = .ok p ∧
  ∀ v Hs' H' B C, RL K Hs' H' [v] [p.1] B → RL K Hs' H' [v0] [p.2] C → Ok Hs' H' (B ++ (F ++ C)) → Go Hs H A Hs' H' (B ++ C) → Q v H'
def PostJ (K : PySem.W.Frag) (W : Wh) (q : Nat) (v0 : V) (t : TA) (σ : L2.St) (F : List Addr) (Hs H : Hp) (A : List Addr) : Res (List D × Env) → Prop
  | .no => True
  | .ok p => ∀ Q : List V → Hp → Prop, (∀ vs Hs' H' B A', RL K Hs' H' vs p.1 B → ER K Hs' H' σ p.2 A' → Ok Hs' H' (B ++ (F ++ A')) → Go Hs H A Hs' H' (B ++ A') → q ≤ vs.length → Q (insA q v0 vs) H') → t σ H Q
  | .ex x env' => ExO K W σ F Hs H A x env' → ∀ Q : List V → Hp → Prop, t σ H Q
def EvJ (K : PySem.W.Frag) (W : Wh) (q i : Nat) (t : TA) (m : Arg) : Prop := ∀ σ env F Hs H A v0, σ[i]? = some (some v0) → ER K Hs H σ env A → Ok Hs H (F ++ A) → PostJ K W q v0 t σ F Hs H A (m env)
section
variable {K : PySem.W.Frag} {W : Wh} {σ σ' : L2.St} {env env' : Env} {F A A' B C R : List Addr} {Hs H Hs' H' : Hp} {t : TE} {m : Exp} {tr : TA} {ms : Arg} {i q : Nat}
theorem ej_0 (e : EvA K W tr ms) : EvJ K W 0 i (tCons (tVar i) tr) ms := by
  intro σ env F Hs H A v0 hv r o
  cases h : ms env with
  | no => trivial
  | ex x e' => exact fun k Q => ⟨v0, hv, e.ex r o h k _⟩
  | ok p => exact fun Q k => ⟨v0, hv, e.ok r o h fun vs Hs1 H1 B1 A1 rs r1 o1 g1 => k vs Hs1 H1 B1 A1 rs r1 o1 g1 (Nat.zero_le _)⟩
theorem ej_s (e : EvI K W t m) (es : EvJ K W q i tr ms) : EvJ K W (q + 1) i (tCons t tr) (aC m ms) := by
  intro σ env F Hs H A v0 hv r o
  unfold aC
  cases h1 : m env with
  | no => trivial
  | ex x e' => exact fun k Q => e.ex r o h1 k _
  | ok p =>
    obtain ⟨d1, env1⟩ := p
    simp only [Res.bind_ok]
    cases h2 : ms env1 with
    | no => trivial
    | ex x e' =>
      intro k Q
      refine e.ok r o h1 fun x Hs1 H1 B1 A1 rx r1 o1 g1 => ?_
      have := es σ env1 (B1 ++ F) Hs1 H1 A1 v0 hv r1 (o1.less fun a => by simp only [List.count_append]; omega)
      rw [h2] at this
      exact this (k.after g1) _
    | ok p2 =>
      obtain ⟨ds, env2⟩ := p2
      intro Q k
      refine e.ok r o h1 fun x Hs1 H1 B1 A1 rx r1 o1 g1 => ?_
      have := es σ env1 (B1 ++ F) Hs1 H1 A1 v0 hv r1 (o1.less fun a => by simp only [List.count_append]; omega)
      rw [h2] at this
      refine this _ fun vs Hs2 H2 B2 A2 rs r2 o2 g2 hq => ?_
      refine k (x :: vs) Hs2 H2 (B1 ++ B2) A2 ((rx.go g2 fun a c => ?_).cons rs) r2 (o2.less fun a => by simp only [List.count_append]; omega) ?_ (by simpa using hq)
      · have := o1.nd a; simp only [List.count_append] at this; omega
      · exact g1.trans ((g2.frame (F := B1)).less fun a c => by simp only [List.count_append] at c ⊢; omega)
theorem ev_callJ {n : Nat} {f : Fn} {E : XK} (hn : ∀ ds q, f ds = .ok q → ds.length = n) (e : EvJ K W q i tr ms) : EvI K W (tCall (spJ K n q f) [] E tr) (eCallX f i ms) := by
  intro σ env F Hs H A r o
  unfold eCallX
  cases hl : live env i with
  | false => trivial
  | true =>
  obtain ⟨v0, hv⟩ := live_at r hl
  rw [if_pos rfl]
  have ee := e σ env F Hs H A v0 hv r o
  cases h1 : ms env with
  | no => trivial
  | ex x e' => rw [h1] at ee; exact fun k Q => ee k _
  | ok p =>
    obtain ⟨ds, env1⟩ := p
    simp only [Res.bind_ok]
    cases hc : env1[i]? with
    | none => trivial
    | some c =>
      dsimp only
      cases hd : isDead c with
      | true => trivial
      | false =>
      simp only [Bool.false_eq_true, if_false]
      cases h2 : f (c :: ds) with
      | no => trivial
      | ex x e' => trivial
      | ok q' =>
        obtain ⟨d, d0⟩ := q'
        intro Q k
        have hlt := (List.getElem?_eq_some_iff.mp hc).1
        rw [h1] at ee
        refine ee _ fun vs Hs1 H1 B1 A1 rs r1 o1 g1 hq => ?_
        obtain ⟨v', B0, A0, e1, e2, e3, e4⟩ := r1.at hc (not_dead hd)
        rw [hv] at e1; cases e1
        rw [List.append_nil]
        refine ⟨by rw [insA_len, rs.length, ← hn _ _ h2, List.length_cons], v0, vs, rfl, hq, c :: ds, Hs1, F ++ A0, B0 ++ B1, (d, d0), e2.cons rs, o1.less fun a => by have := e4 a; simp only [List.count_append]; omega, h2, fun v Hs2 H2 B2 C2 rv r0 o2 g2 => ?_⟩
        have e3' : ER K Hs2 H2 σ (env1.set i .dead) A0 := e3.mono g2.hs fun a w c h => g2.keep a w h (by have := o1.nd a; have := e4 a; simp only [List.count_append] at *; omega)
        obtain ⟨A3, p1, p2⟩ := ER.give e3' r0 hv hlt
        refine k v Hs2 H2 B2 A3 rv p1 (o2.less fun a => by have := p2 a; simp only [List.count_append]; omega) ?_
        have g3 := g2.frame (F := A0)
        exact g1.trans ((g3.more fun a c => by have := e4 a; simp only [List.count_append] at c ⊢; omega).less fun a c => by have := p2 a; simp only [List.count_append] at c ⊢; omega)
/-- a def that changes its parameter q; that one comes first here -/
def fnJ (q n len : Nat) (m : Stm) : Fn := fun ds => match ds with
  | d0 :: rest => if rest.length + 1 = n ∧ q ≤ rest.length then (match m (insA q d0 rest ++ List.replicate (len - n) .dead) with
    | .rt d e => .ok (d, e.getD q .dead)
    | .nx e => .ok (.non, e.getD q .dead)
    | .ex x e => .ex x e
    | _ => .no) else .no
  | [] => .no
theorem fnJ_len {q n len : Nat} {m : Stm} (ds : List D) (p : D × D) (h : fnJ q n len m ds = .ok p) : ds.length = n := by
  unfold fnJ at h
  cases ds with
  | nil => cases h
  | cons d0 rest =>
    dsimp only at h
    split at h
    · rename_i c; simpa using c.1
    · cases h
theorem rl_ins {v0 : V} {d0 : D} {B : List Addr} (r0 : RL K Hs H [v0] [d0] B) : ∀ (q : Nat) {vs : List V} {ds : List D} {A : List Addr}, RL K Hs H vs ds A → ∃ A', RL K Hs H (insA q v0 vs) (insA q d0 ds) A' ∧ ∀ a, A'.count a = B.count a + A.count a
  | 0, vs, ds, A, r => ⟨B ++ A, r0.cons r, fun a => by simp only [List.count_append]⟩
  | q + 1, [], [], A, r => by
    cases r
    exact ⟨B, r0, fun a => by simp⟩
  | q + 1, [], _ :: _, A, r => by cases r
  | q + 1, _ :: _, [], A, r => by cases r
  | q + 1, v :: vs, d :: ds, A, r => by
    obtain ⟨B1, C1, rfl, r1, r2⟩ := r.un
    obtain ⟨A', h1, h2⟩ := rl_ins r0 q r2
    exact ⟨B1 ++ A', r1.cons h1, fun a => by have := h2 a; simp only [List.count_append]; omega⟩
theorem fn_endJ {q n len : Nat} {m : Stm} {ts : TS} {N : List Str} (hN : N.length = len) (h : StI K W [q] ts m) {vs : List V} {Q : VK} {E : XK} (sp : spJ K n q (fnJ q n len m) vs H Q E) :
    ts { nx := fun _ H' => Q .non H', rt := Q } (L2.start N vs) H := by
  obtain ⟨hl, v0, vr, rfl, hq, ds, Hs, F, A, p, rs, o, hm, k⟩ := sp
  have hln := rs.length
  cases ds with
  | nil => simp at hln
  | cons d0 rest =>
  unfold fnJ at hm
  dsimp only at hm
  have hr : vr.length = rest.length := by simpa using hln
  rw [insA_len] at hl
  rw [if_pos ⟨by omega, by omega⟩] at hm
  obtain ⟨B1, C1, rfl, r1, r2⟩ := rs.un
  obtain ⟨A1, r3, c3⟩ := rl_ins r1 q r2
  obtain ⟨A', r0, hc⟩ := er_start (len - n) r3
  have hst : L2.start N (insA q v0 vr) = (insA q v0 vr).map some ++ List.replicate (len - n) none := by unfold L2.start; rw [hN, insA_len, hl]
  rw [hst]
  have o0 : Ok Hs H (F ++ A') := o.less fun a => by have := hc a; have := c3 a; simp only [List.count_append]; omega
  have ggo : ∀ {Hs2 H2 : Hp} {C2 : List Addr}, Go Hs H A' Hs2 H2 C2 → Go Hs H (B1 ++ C1) Hs2 H2 C2 := fun g => g.more fun a c => by have := hc a; have := c3 a; simp only [List.count_append] at *; omega
  have hv0 : ((insA q v0 vr).map some ++ List.replicate (len - n) none)[q]? = some (some v0) := by rw [insA_map]; exact insA_get q (some v0) (vr.map some) _ (by simpa using hq)
  have last : ∀ {σ2 : L2.St} {e : Env} {Hs2 H2 : Hp} {A2 : List Addr}, ER K Hs2 H2 σ2 e A2 → Pin [q] ((insA q v0 vr).map some ++ List.replicate (len - n) none) σ2 →
      ∃ C, RL K Hs2 H2 [v0] [e.getD q .dead] C ∧ ∀ a, C.count a ≤ A2.count a := fun {σ2 e Hs2 H2 A2} r2 p2 => by
    have e0 : σ2[q]? = some (some v0) := by rw [p2 q (by simp)]; exact hv0
    rw [List.getD_eq_getElem?_getD]
    cases hd : e[q]? with
    | none => exact ⟨[], .dead .nil, fun a => by simp⟩
    | some d =>
      show ∃ C, RL K Hs2 H2 [v0] [d] C ∧ _
      by_cases hdd : d = .dead
      · subst hdd; exact ⟨[], .dead .nil, fun a => by simp⟩
      · obtain ⟨v', B, A3, h1, h2, h3, h4⟩ := r2.at (i := q) hd hdd
        rw [e0] at h1; cases h1
        exact ⟨B, h2, fun a => by have := h4 a; omega⟩
  cases hb : m (insA q d0 rest ++ List.replicate (len - n) .dead) with
  | rt d e =>
    rw [hb] at hm
    cases hm
    exact h.go r0 o0 _ hb fun v σ2 Hs2 H2 B2 A2 rv r2 o2 g2 p2 => by
      obtain ⟨C, c1, c2⟩ := last r2 p2
      exact k v Hs2 H2 B2 C rv c1 (o2.less fun a => by have := c2 a; simp only [List.count_append]; omega) (ggo (g2.less fun a c => by have := c2 a; simp only [List.count_append] at *; omega))
  | nx e =>
    rw [hb] at hm
    cases hm
    exact h.go r0 o0 _ hb fun σ2 Hs2 H2 A2 r2 o2 g2 p2 => by
      obtain ⟨C, c1, c2⟩ := last r2 p2
      exact k .non Hs2 H2 [] C (.sc rfl .nil) c1 (o2.less fun a => by have := c2 a; simp only [List.count_append, List.count_nil]; omega) (ggo (g2.less fun a c => by have := c2 a; simp only [List.count_append, List.count_nil] at *; omega))
  | no => rw [hb] at hm; cases hm
  | bk e => rw [hb] at hm; cases hm
  | ct e => rw [hb] at hm; cases hm
  | ex x e => rw [hb] at hm; cases hm
end
structure HasJ (P : Program) (w : World) (K : PySem.W.Frag) (mg : Str → Option Value) (base : Heap) (k : Nat) (x : Str) (n q : Nat) (m : Fn) : Prop where
  len : ∀ ds p, m ds = .ok p → ds.length = n
  ex : ∃ f fd ps, FnOk P w K mg base CX0 k f fd ps (spJ K n q m) ∧ mg x = some (.ref f) ∧ PySem.W.keepIn K (.ref f) = true ∧ Binds K fd ps []
def IAJ (X : Cx) (W : Wh) (q i : Nat) (es : List Expr) (ms : Arg) : Prop := ∃ t, PA X es t ∧ EvJ X.K W q i t ms
section
variable {X : Cx} {W : Wh} {e : Expr} {es : List Expr} {m : Exp} {ms : Arg} {pos p py : Pos} {x y : Str} {i q : Nat}
theorem iaj_0 (i : Nat) (ha : IA X W es ms) (hN : X.N[i]? = some y := by rfl) (hv : Vis X.env.scope y := by first | exact Or.inl rfl | exact Or.inr (Or.inl rfl) | exact Or.inr (Or.inr rfl)) (hd : (y == ("__debug__" : Str)) = false := by decide) (hcd : (y == ("__classdict__" : Str)) = false := by decide)
    (he : starEach (.Name y py :: es) X.env = (false, eval (.Name y py) X.env) :: starEach es X.env := by rfl) : IAJ X W 0 i (.Name y py :: es) ms := let ⟨_, h1, h2⟩ := ha; ⟨_, pa_cons (pe_var hN hv hd hcd) h1 he, ej_0 h2⟩
theorem iaj_s (he : IE X W e m) (hs : IAJ X W q i es ms) (h : starEach (e :: es) X.env = (false, eval e X.env) :: starEach es X.env := by rfl) : IAJ X W (q + 1) i (e :: es) (aC m ms) := let ⟨_, h1, h2⟩ := he; let ⟨_, h3, h4⟩ := hs; ⟨_, pa_cons h1 h3 h, ej_s h2 h4⟩
theorem ie_callJ {k n : Nat} {f : Fn} (h : HasJ X.prog X.w X.K X.mg X.base k x n q f) (hr : Room k X.A) (ha : IAJ X W q i (e :: es) ms) (hg : Gl X x := by rfl) (hdb : (x == ("__debug__" : Str)) = false := by decide)
    (he : starEach (e :: es) X.env = (false, eval e X.env) :: starEach es X.env := by rfl) (hpl : (backTo pos (starEach es X.env)).any (·.1) = false := by rfl) : IE X W (.Call (.Name x p) (e :: es) [] pos) (eCallX f i ms) := by
  obtain ⟨_, h1, h2⟩ := ha
  obtain ⟨g, fd, ps, G, hm, hk, hb⟩ := h.ex
  exact ⟨_, pe_call G hr hg hm hk hb .nil pass0 h1 hdb he hpl, ev_callJ h.len h2⟩
end
section
variable {Pg : Program} {w : World} {K : PySem.W.Frag} {mg : Str → Option Value} {base : Heap}
theorem fn_defJ {x qual : Str} {st : Stmt} {f : Addr} {fd : FuncData} {N ps : List Str} {k n q : Nat} {m : Stm} (F : Fun K x qual st f fd) (S : FnScope N ps (defScope st)) (hn : ps.length = n)
    (body : ∀ (cdv : Value) (A : Around) (outer : List PySem.Env) (s : Shared) (H : Hp) (E : XK), Room k (A.deeper (envOfC qual (defScope st) s.heap.objs.size f cdv)) →
      ISs (cxOf CX0 Pg w K mg base N qual (defScope st) f cdv A outer s H E).nox W0 [q] (defBody st) m) :
    FnOk Pg w K mg base CX0 (k + 1) f fd ps (spJ K n q (fnJ q n N.length m)) := by
  refine F.ok S (fun vs H Q E h => by rw [hn]; exact h.1) (fun cdv A outer s H vs Q E hr h => ?_)
  obtain ⟨t, h1, h2⟩ := body cdv A outer s H E hr
  exact ⟨t, h1, fn_endJ rfl h2 h⟩
theorem has_ofJ {x qual : Str} {st : Stmt} {f : Addr} {fd : FuncData} {ps : List Str} {k n q : Nat} {m : Fn} (F : Fun K x qual st f fd) (hl : ∀ ds p, m ds = .ok p → ds.length = n) (h : FnOk Pg w K mg base CX0 k f fd ps (spJ K n q m)) (hm : mg x = some (.ref f)) (b : Binds K fd ps []) :
    HasJ Pg w K mg base k x n q m := ⟨hl, f, fd, ps, h, hm, F.kp, b⟩
end
end Fl
namespace Fl
open PySem
open Ty (enc)
def enFj {ρ σ : Type} [Ty ρ] [Ty σ] (q : Nat) (ν : Md) : En (ρ × σ) := ⟨fun w d e => ∃ r s, w = .ok (r, s) ∧ Is (enc r) ν d ∧ ∃ d0, e[q]? = some d0 ∧ Is (enc s) .cl d0, fun _ _ => False, fun _ _ => False, xT⟩
def FinFj {ρ σ : Type} [Ty ρ] [Ty σ] (q : Nat) (ν : Md) (Γ : Ctx) (w : M (ρ × σ)) : Prop := ∃ r s, w = .ok (r, s) ∧ Is (enc r) ν .non ∧ Γ[q]? = some (Is (enc s) .cl)
theorem Sat.ins {x d0 : D} (h0 : Is x .cl d0) : ∀ {q : Nat} {ds : List D} {Γ : Ctx} {xs : List D} {e : Fl.Env}, q ≤ ds.length → shL ds = xs → Sat Γ e → Sat (insA q (Is x .cl) (xs.map (fun x => Is x .any)) ++ Γ) (insA q d0 ds ++ e)
  | 0, ds, Γ, xs, e, _, h, s => ⟨h0, Sat.args h s⟩
  | q + 1, [], Γ, xs, e, hq, h, s => by simp at hq
  | q + 1, d :: ds, Γ, xs, e, hq, h, s => by subst h; exact ⟨⟨rfl, rfl⟩, Sat.ins h0 (by simpa using hq) rfl s⟩
theorem sfxJ {ρ σ : Type} [Ty ρ] [Ty σ] {q n len : Nat} {b : Stm} {x : D} {xs : List D} {v : M (ρ × σ)} {ν : Md} (Γ : Ctx) (h : KS (enFj q ν) Γ b v (FinFj q ν)) (hn : xs.length + 1 = n := by rfl) (hq : q ≤ xs.length := by decide) (hΓ : insA q (Is x .cl) (xs.map (fun x => Is x .any)) ++ List.replicate (len - n) Tp = Γ := by rfl) : SFx (fnJ q n len b) x xs v ν := fun d0 ds h0 hd hv => by
  have hl : ds.length = xs.length := shL_len' hd
  have q' := h (insA q d0 ds ++ List.replicate (len - n) .dead) (by rw [← hΓ]; exact Sat.ins h0 (by omega) hd (Sat.tops _)) hv
  unfold fnJ
  dsimp only
  rw [if_pos ⟨by omega, by omega⟩]
  revert q'
  cases b (insA q d0 ds ++ List.replicate (len - n) .dead) with
  | no => exact False.elim
  | nx e =>
    rintro ⟨Γ', s0, r, s, q1, q2, q3⟩
    obtain ⟨d', p1, p2⟩ := s0.at q3
    exact .inl ⟨r, s, .non, d', q1, by simp [List.getD_eq_getElem?_getD, p1], q2, p2⟩
  | rt d e =>
    rintro ⟨r, s, q1, q2, d', p1, p2⟩
    exact .inl ⟨r, s, d, d', q1, by simp [List.getD_eq_getElem?_getD, p1], q2, p2⟩
  | bk e => exact False.elim
  | ct e => exact False.elim
  | ex x e => rintro ⟨c, es, rfl, q1, _⟩; exact .inr ⟨c, es, e, q1, rfl⟩
theorem rtFj {ρ σ : Type} [Ty ρ] [Ty σ] {Γ : Ctx} {q : Nat} {ν μ : Md} {r : ρ} {s : σ} (h : ∀ d, Is (enc r) μ d → Is (enc r) ν d := by exact fun _ h => h) (hi : Γ[q]? = some (Is (enc s) .cl) := by rfl) : ∀ d e, Is (enc r) μ d → Sat Γ e → (enFj (ρ := ρ) (σ := σ) q ν).rt (.ok (r, s)) d e := fun d e hd he => ⟨r, s, rfl, h d hd, he.at hi⟩
end Fl
namespace Fl
open PySem PySem.Spec PyProof.Rows L2
end Fl
namespace Fl
open PySem
open Ty (enc)
class SlT (τ σ : Type) [Ty τ] [Ty σ] (l u : Option Int) where
  f : τ → M σ
  ok : ∀ t s, f t = .ok s → ∃ ds, tpD (enc t) = some ds ∧ ¬ (HT.sIx ds.length 0 l = 0 ∧ HT.sIx ds.length ds.length u = ds.length) ∧ D.tup (cutD ds l u) = enc s
  noex : ∀ t, f t = .no ∨ ∃ s, f t = .ok s
section
variable {α α' γ δ : Type} [Ty α] [Ty α'] [Ty γ] [Ty δ]
instance : SlT (U2 (T2 α γ) (T3 α' δ γ)) (U2 (T1 α) (T2 α' δ)) none (some (-1)) := ⟨fun t => match t with
  | .a t => .ok (.a ⟨t.a⟩)
  | .b t => .ok (.b ⟨t.a, t.b⟩), fun t s h => by
  cases t with
  | a t => cases h; exact ⟨[enc t.a, enc t.b], rfl, by simp [HT.sIx], rfl⟩
  | b t => cases h; exact ⟨[enc t.a, enc t.b, enc t.c], rfl, by simp [HT.sIx], rfl⟩, fun t => by cases t <;> exact .inr ⟨_, rfl⟩⟩
instance : SlT (U2 (T2 α γ) (T3 α' δ γ)) (T2 α' δ) none (some 2) := ⟨fun t => match t with
  | .a t => .no
  | .b t => .ok ⟨t.a, t.b⟩, fun t s h => by
  cases t with
  | a t => cases h
  | b t => cases h; exact ⟨[enc t.a, enc t.b, enc t.c], rfl, by simp [HT.sIx], rfl⟩, fun t => by
  cases t with
  | a t => exact .inl rfl
  | b t => exact .inr ⟨_, rfl⟩⟩
instance [Flat α] : Flat (T1 α) := ⟨fun t => by simp [enc, clean, cleanL]; exact Flat.flat t.a⟩
instance [Flat α] [Flat γ] : Flat (U2 α γ) := ⟨fun u => match u with | .a x => Flat.flat x | .b x => Flat.flat x⟩
noncomputable instance [EqP α] [EqP γ] [EqP δ] : EqP (U2 (T1 α) (T2 γ δ)) := ⟨fun u => match u with | .a x => EqP.py x | .b x => EqP.py x, fun u => match u with | .a x => EqP.to x | .b x => EqP.to x, max (EqP.dep (T1 α)) (EqP.dep (T2 γ δ)), fun u => match u with
  | .a x => Nat.le_trans (EqP.hdep x) (Nat.le_max_left _ _)
  | .b x => Nat.le_trans (EqP.hdep x) (Nat.le_max_right _ _), fun u => match u with | .a x => EqP.ok x | .b x => EqP.ok x, fun u h => match u, h with
  | .a x, h => EqP.lay x h
  | .b x, h => EqP.lay x h, fun a b => by
  cases a with
  | a x => cases b with
    | a y => simp only [U2.a.injEq]; exact EqP.eq x y
    | b y => cases x; cases y; simp [EqP.py, PyData.eqv, PyData.eqvAll]
  | b x => cases b with
    | a y => cases x; cases y; simp [EqP.py, PyData.eqv, PyData.eqvAll]
    | b y => simp only [U2.b.injEq]; exact EqP.eq x y⟩
end
end Fl
set_option synthInstance.maxHeartbeats 400000
set_option synthInstance.maxSize 4000
namespace Fl
open PySem PySem.Spec PyProof.Rows L2
open Ty (enc)
end Fl
namespace Fl
open PySem PySem.Spec PyProof.Rows L2 Sim
structure SideW (m : Int) (s : Side) : Prop where
  so : (s.map T2.a).Pairwise (· < ·)
  rg : ∀ p ∈ s, 0 ≤ p.a ∧ p.a < m
  am : ∀ p ∈ s, 0 < p.b ∧ Sz p.b 1000
  ln : s.length ≤ 1000
structure DeedW (m : Int) (d : Deed) : Prop where
  l : SideW m d.a
  r : SideW m d.b
structure NetW (n : Net) : Prop where
  m0 : 0 < n.a
  m1 : n.a ≤ 100
  ln : n.b.length ≤ 100
  ok : ∀ d ∈ n.b, DeedW n.a d
section
variable {n : Net} {m : Int} {s : Side} {f : Int → Rat} {deeds : List Int}
theorem SideW.nd (h : SideW m s) : (s.map T2.a).Nodup := h.so.imp fun h => by omega
theorem SideW.nil : SideW m [] := ⟨List.Pairwise.nil, by simp, by simp, by simp⟩
theorem SideW.one {p : T2 Int Rat} (h : 0 ≤ p.a ∧ p.a < m) (ha : 0 < p.b ∧ Sz p.b 1000) : SideW m [p] := ⟨by simp, by simpa using h, by simpa using ha, by simp⟩
theorem SideW.amt_sz (h : SideW m s) (j : Int) : Sz (amt s j) 1000 ∧ 0 ≤ amt s j := by
  rcases amt_cases h.nd j with ⟨p, hp, rfl, e⟩ | ⟨_, e⟩
  · rw [e]; exact ⟨(h.am p hp).2, by have := (h.am p hp).1; grind⟩
  · rw [e]; exact ⟨sz0 (by decide), by decide⟩
theorem SideOk.w (h : SideOk m s) : SideW m s := ⟨h.so, h.rg, fun p hp => ⟨(h.am p hp).1, (h.am p hp).2.mono (by decide)⟩, h.ln⟩
theorem NetOk.w (h : NetOk n) : NetW n := ⟨h.m0, h.m1, h.ln, fun d hd => ⟨(h.ok d hd).l.w, (h.ok d hd).r.w⟩⟩
theorem NetW.dok (h : NetW n) (x : Int) : DeedW n.a (dd n x) := by
  unfold dd
  rw [List.getD_eq_getElem?_getD]
  cases e : n.b[x.toNat]? with
  | none => exact ⟨SideW.nil, SideW.nil⟩
  | some d => exact h.ok d (List.mem_of_getElem? e)
theorem NetW.gv (h : NetW n) (x : Int) : (gvN n x).Nodup ∧ ∀ p ∈ gvN n x, 0 ≤ p ∧ p < n.a := ⟨(h.dok x).r.nd, fun p hp => by
  obtain ⟨q, hq, rfl⟩ := List.mem_map.mp hp
  exact (h.dok x).r.rg q hq⟩
theorem NetW.tkr (h : NetW n) (x : Int) : ∀ p ∈ tkN n x, 0 ≤ p ∧ p < n.a := fun p hp => by
  obtain ⟨q, hq, rfl⟩ := List.mem_map.mp hp
  exact (h.dok x).l.rg q hq
theorem deeds_allW (h : NetW n) : DeedsOk n (rg 0 n.b.length) := ⟨fun x hx => by rw [mem_rg] at hx; exact hx, by have := h.ln; simp; omega⟩
theorem in_turnW (h : NetW n) (hd : DeedsOk n deeds) : ∃ s, f_in_turn n (vec n.a f) deeds = .ok ⟨s.2.1, s.1⟩ ∧ Wet n f deeds s := by
  have hm := h.m1
  unfold f_in_turn
  rw [wet_in_eq (by omega)]
  simp only [M.call_ok, M.ok_bind]
  refine wet_goal (m := n.a) (tk := tkN n) (gv := gvN n) (init := wets n.a f) (deeds := deeds) (fun x _ => h.gv x) wets_ok (by omega) hd.ln (fun s => rfl) (fun s => rfl) (fun s => rfl) ?_
  intro x hx s h1 h2
  have hx' := hd.rg x hx
  have lg : (gvN n x).length ≤ 1000 := by have := (h.dok x).r.ln; simpa [gvN] using this
  have ls : (tkN n x).length ≤ 1000 := by have := (h.dok x).l.ln; simpa [tkN] using this
  by_cases hf : x ∈ s.2.1
  · simp [hf, stepW, addable]
  · have e1 := takes_from_eq (n := n) hx'.1 hx'.2 (by simpa [tkN] using ls)
    have e2 := gives_to_eq (n := n) hx'.1 hx'.2 (by simpa [gvN] using lg)
    have e3 : mapM (fun (x10 : Int) => (M.ok (decide (x10 ∈ s.1)) : M Bool)) (tkN n x) = .ok ((tkN n x).map fun p => decide (p ∈ s.1)) := mapM_of (by omega) fun _ _ => rfl
    have e4 : fltM (fun (x18 : Int) => ((if (!(decide (x18 ∈ s.1))) then M.ok (some x18) else M.ok none) : M (Option Int))) (gvN n x) = .ok ((gvN n x).filter fun p => !decide (p ∈ s.1)) := fltM_if (by omega) fun y _ => by split <;> rfl
    have la : s.2.1.length < 100000 := by omega
    have lc : s.1.length + ((gvN n x).filter fun p => !decide (p ∈ s.1)).length ≤ 100000 := by
      have := List.length_filter_le (fun p => !decide (p ∈ s.1)) (gvN n x)
      omega
    have e5 : (((tkN n x).map fun p => decide (p ∈ s.1)).all id) = (tkN n x).all fun p => decide (p ∈ s.1) := by simp [List.all_map, Function.comp_def]
    simp only [hf, decide_false, Bool.not_false, if_true, e1, M.call_ok, M.ok_bind, e3, e5]
    cases ha : (tkN n x).all fun p => decide (p ∈ s.1) with
    | true =>
      simp only [if_true, appL_of la, M.ok_bind, e2, M.call_ok, e4, catL_of lc]
      simp [stepW, addable, hf, ha]
    | false => simp [stepW, addable, hf, ha]
theorem can_beW (h : NetW n) (hd : DeedsOk n deeds) : ∃ s, f_can_be n (vec n.a f) deeds = .ok ⟨s.1.mergeSort, s.2.1.mergeSort⟩ ∧ Wet n f deeds s := by
  obtain ⟨s, e, q⟩ := in_turnW (f := f) h hd
  exact ⟨s, by simp [f_can_be, e], q⟩
end
end Fl
namespace Fl
open PySem PySem.Spec PyProof.Rows L2 Sim
open Ty (enc)
theorem qs_pt {a : Nat → Rat} {i : Nat} : ∀ {k : Nat}, i < k → (∀ j, j < k → j ≠ i → a j = 0) → qs k a = a i
  | 0, hi, _ => absurd hi (Nat.not_lt_zero _)
  | k + 1, hi, h => by
    rw [qs]
    by_cases c : i = k
    · subst c
      rw [qs_zero fun j hj => h j (by omega) (by omega), Rat.zero_add]
    · rw [qs_pt (by omega) fun j hj hn => h j (by omega) hn, h k (by omega) fun e => c e.symm, Rat.add_zero]
def uF (i : Int) (q : Rat) : RowF := upd (fun _ => 0) i q
section
variable {n : Net} {l : List Int} {f : RowF} {x : Int} {D Z : Nat}
/-- what holds is asked of -/
structure CIn (n : Net) (f : RowF) (x : Int) (D Z : Nat) : Prop where
  h : NetW n
  x0 : 0 ≤ x
  x1 : x < n.a
  ln : n.b.length ≤ 40
  an : n.a ≤ 60
  D0 : 0 < D
  DZ : D ≤ Z
  hc : ∀ d j, Cd D Z (chg (dd n d) j)
  hf : ∀ j, Cd D Z (f j)
  f0 : ∀ j, 0 ≤ f j
  tw : ∀ M : Nat, M ≤ n.a.toNat + n.b.length + 1 → (M + 3) * (M + 3) * (2 * (M * Z + 1) ^ M) * (D * (Z + 1)) < 2 ^ 190000
theorem CIn.l1 (I : CIn n f x D Z) : D * (Z + 1) < 2 ^ 190000 := Nat.lt_of_le_of_lt (Nat.le_mul_of_pos_left _ (by simp)) (I.tw 0 (by omega))
theorem CIn.lD (I : CIn n f x D Z) : D < 2 ^ 190000 := Nat.lt_of_le_of_lt (Nat.le_mul_of_pos_right _ (by omega)) I.l1
theorem CIn.lZ (I : CIn n f x D Z) : Z < 2 ^ 190000 := Nat.lt_of_le_of_lt (Nat.le_trans (Nat.le_succ Z) (Nat.le_mul_of_pos_left _ I.D0)) I.l1
theorem CIn.sz (I : CIn n f x D Z) {q : Rat} (h : Cd D Z q) : Sz q 190000 := h.sz I.D0 I.lD I.lZ
end
end Fl
namespace Fl
open PySem PySem.Spec PyProof.Rows L2 Sim
open Ty (enc)
def qC (M Z : Nat) : Nat := (M * Z + 1) ^ M
section
variable {n : Net} {l : List Int} {f : RowF} {x : Int} {D Z : Nat} {y : RowF}
theorem wsm_uF {M : Nat} {i : Int} {q : Rat} (i0 : 0 ≤ i) (i1 : i < M) : wsm M y (uF i q) = y i * q := by
  obtain ⟨k, rfl⟩ : ∃ k : Nat, i = (k : Int) := ⟨i.toNat, by omega⟩
  unfold wsm
  rw [qs_pt (i := k) (by omega) fun j hj hn => by unfold uF upd; rw [if_neg (by omega), Rat.mul_zero]]
  unfold uF upd
  rw [if_pos rfl]
theorem qC0 {M Z : Nat} : 0 < qC M Z := Nat.pow_pos (by omega)
theorem CIn.two (I : CIn n f x D Z) {M d : Nat} (hM : M ≤ n.a.toNat + n.b.length + 1) (hm : n.a.toNat ≤ M) (d0 : 0 < d) (hd : d ≤ qC M Z) : Two n.a.toNat d (2 * qC M Z) D Z 190000 := by
  have tw := I.tw M hM
  have Q0 : 0 < qC M Z := qC0
  have D0 := I.D0
  have e : (M * Z + 1) ^ M = qC M Z := rfl
  rw [e] at tw
  generalize qC M Z = Q at *
  generalize n.a.toNat = m at *
  have hp : 0 < (M + 3) * (M + 3) := Nat.mul_pos (by omega) (by omega)
  have hp2 : m ≤ (M + 3) * (M + 3) := Nat.le_trans (by omega) (Nat.le_mul_of_pos_right (M + 3) (show 0 < M + 3 by omega))
  refine ⟨d0, D0, ?_, ?_, ?_, ?_, by decide⟩
  · refine Nat.lt_of_le_of_lt ?_ tw
    exact Nat.mul_le_mul (Nat.le_trans hd (Nat.le_trans (by omega) (Nat.le_mul_of_pos_left (2 * Q) hp))) (Nat.le_mul_of_pos_right _ (by omega))
  · refine Nat.lt_of_le_of_lt ?_ tw
    rw [← Nat.mul_assoc]
    exact Nat.mul_le_mul (Nat.mul_le_mul_right _ hp2) (Nat.le_trans (Nat.le_succ Z) (Nat.le_mul_of_pos_left _ D0))
  · refine Nat.lt_of_le_of_lt ?_ tw
    exact Nat.le_trans (Nat.le_mul_of_pos_left _ hp) (Nat.le_mul_of_pos_right _ (Nat.mul_pos D0 (by omega)))
  · exact I.lZ
theorem CIn.one (I : CIn n f x D Z) : Cd D Z 1 := by
  have := cd_int (a := 1) I.D0 (Z := Z) (by simpa using I.DZ)
  simpa using this
end
end Fl
namespace Fl
open PySem PySem.Spec PyProof.Rows L2 Sim
open Ty (enc)
end Fl
namespace Fl
open PySem PySem.Spec PyProof.Rows L2 Sim
open Ty (enc)
end Fl
namespace Fl
open PySem PySem.Spec PyProof.Rows L2 Sim
open Ty (enc)
end Fl
namespace Fl
open PySem PySem.Spec PyProof.Rows L2
end Fl
namespace Fl
open PySem
open Ty (enc)
end Fl
namespace Fl
open PySem PySem.Spec PyProof.Rows L2 Sim
def Ach (n : Net) (f : RowF) (x : Int) (q : Rat) : Prop := ∃ s, Wet n f (rg 0 n.b.length) s ∧ ∃ p : RowF, (∀ d, 0 ≤ p d) ∧ (∀ d, 0 < p d → d ∈ s.2.1) ∧ (∀ i, 0 ≤ i → i < n.a → 0 ≤ f i + chP n p i) ∧ q = f x + chP n p x
def IsTop (n : Net) (f : RowF) (x : Int) (v : Rat) : Prop := Ach n f x v ∧ ∀ q, Ach n f x q → q ≤ v
section
variable {n n' : Net} {f f' g : RowF} {x x' : Int} {D Z : Nat} {l : List Int} {v : Rat}
theorem pt_le {m : Nat} {W g : RowF} {x : Int} (x0 : 0 ≤ x) (x1 : x < m) (w0 : ∀ j : Int, 0 ≤ j → j < m → 0 ≤ W j) (wx : 1 ≤ W x) (g0 : ∀ j : Int, 0 ≤ j → j < m → 0 ≤ g j) : g x ≤ wsm m W g := by
  obtain ⟨k, hk⟩ : ∃ k : Nat, x = (k : Int) := ⟨x.toNat, by omega⟩
  have h3 : W x * g x ≤ wsm m W g := by
    have e1 : (qs m fun i => W i * uF x (g x) i) = W k * uF x (g x) k := qs_pt (a := fun i => W i * uF x (g x) i) (i := k) (by omega) fun j hj hn => by
      show W j * uF x (g x) j = 0
      unfold uF upd; rw [if_neg (by omega), Rat.mul_zero]
    have e2 : uF x (g x) k = g x := by unfold uF upd; rw [if_pos (by omega)]
    rw [e2, ← hk] at e1
    rw [← e1]
    have : 0 ≤ qs m fun i => W i * g i - W i * uF x (g x) i := qs_nonneg fun i hi => by
      have hw := w0 i (by omega) (by omega)
      by_cases c : (i : Int) = x
      · unfold uF upd; rw [if_pos c, c]; grind
      · unfold uF upd; rw [if_neg c]; have := Rat.mul_nonneg hw (g0 i (by omega) (by omega)); grind
    rw [qs_sub] at this
    unfold wsm
    grind
  have h4 : g x ≤ W x * g x := by
    have := Rat.mul_nonneg (show 0 ≤ W x - 1 by grind) (g0 x x0 (by omega))
    grind
  grind
/-- can be done: of another net too -/
theorem wet_map {s t : WS} {φ π : Int → Int} {ds ds' : List Int} (hs : Wet n f ds s) (ht : Wet n' f' ds' t) (hd : ∀ d ∈ ds, φ d ∈ ds') (hi : ∀ p ∈ wets n.a f, π p ∈ wets n'.a f') (htk : ∀ d ∈ ds, ∀ p ∈ tkN n' (φ d), ∃ p0 ∈ tkN n d, π p0 = p) (hgv : ∀ d ∈ ds, ∀ p ∈ gvN n d, π p ∈ gvN n' (φ d)) : ∀ d ∈ s.2.1, φ d ∈ t.2.1 := by
  have key : ∀ k (hk : k < s.2.1.length), φ s.2.1[k] ∈ t.2.1 := by
    intro k
    induction k using Nat.strongRecOn with
    | ind k ih =>
      intro hk
      have hm := hs.fd _ (List.getElem_mem hk)
      refine ht.cl _ (hd _ hm) fun p hp => ?_
      obtain ⟨p0, h0, rfl⟩ := htk _ hm p hp
      rcases hs.od k hk p0 h0 with q | ⟨j, hj, hjk, q⟩
      · exact (ht.wi _).mpr (.inl (hi _ q))
      · exact (ht.wi _).mpr (.inr ⟨_, ih j hjk hj, hgv _ (hs.fd _ (List.getElem_mem hj)) _ q⟩)
  intro d hd
  obtain ⟨k, hk, rfl⟩ := List.getElem_of_mem hd
  exact key k hk
theorem wet_ex (h : NetW n) (f : RowF) : ∃ s, Wet n f (rg 0 n.b.length) s := by
  obtain ⟨s, _, W⟩ := can_beW (f := f) h (deeds_allW h)
  exact ⟨s, W⟩
end
end Fl
namespace Fl
open PySem PySem.Spec PyProof.Rows L2 Sim
section
variable {P : List Int} {m : Nat}
theorem amt_perm {s t : Side} (h : s.Perm t) (j : Int) : amt s j = amt t j := by
  induction h with
  | nil => rfl
  | cons x _ ih => simp only [amt, ih]
  | swap x y l => simp only [amt]; grind
  | trans _ _ a b => exact a.trans b
def sb (P : List Int) (s : Side) : Side := (s.map fun p => (⟨sgi P p.a, p.b⟩ : T2 Int Rat)).mergeSort lePr
theorem sb_perm {s : Side} : (sb P s).Perm (s.map fun p => (⟨sgi P p.a, p.b⟩ : T2 Int Rat)) := List.mergeSort_perm _ _
theorem sb_nd (O : Ord P m) {s : Side} (h : SideOk m s) : ((s.map fun p => (⟨sgi P p.a, p.b⟩ : T2 Int Rat)).map T2.a).Nodup := by
  rw [List.map_map]
  refine List.pairwise_map.mpr ?_
  have := List.pairwise_map.mp h.nd
  refine this.imp_of_mem fun {a b} ha hb hab e => hab ?_
  have ra := h.rg a ha
  have rb := h.rg b hb
  have e' : sgi P a.a = sgi P b.a := e
  rw [← (O.si ra.1 ra.2).2, e', (O.si rb.1 rb.2).2]
theorem sb_ok (O : Ord P m) {s : Side} (h : SideOk m s) : SideOk m (sb P s) := by
  have sp : (sb P s).Pairwise fun x y => x.a ≤ y.a := (List.pairwise_mergeSort (le := lePr) (by intro a b c; simp [lePr]; omega) (by intro a b; simp [lePr]; omega) _).imp (by simp [lePr])
  have nd : ((sb P s).map T2.a).Nodup := (sb_perm.map T2.a).nodup_iff.mpr (sb_nd O h)
  have mem : ∀ p ∈ sb P s, ∃ x ∈ s, p = ⟨sgi P x.a, x.b⟩ := fun p hp => by
    obtain ⟨x, hx, e⟩ := List.mem_map.mp (sb_perm.mem_iff.mp hp)
    exact ⟨x, hx, e.symm⟩
  refine ⟨?_, fun p hp => ?_, fun p hp => ?_, ?_⟩
  · refine List.pairwise_map.mpr ?_
    have n2 := List.pairwise_map.mp nd
    exact (sp.and n2).imp fun {a b} hab => by have := hab.1; have := hab.2; omega
  · obtain ⟨x, hx, rfl⟩ := mem p hp
    have := h.rg x hx
    exact (O.si this.1 this.2).1
  · obtain ⟨x, hx, rfl⟩ := mem p hp
    exact h.am x hx
  · rw [sb_perm.length_eq, List.length_map]; exact h.ln
theorem sb_den {s : Side} {D : Nat} (h : ∀ p ∈ s, p.b.den ∣ D) : ∀ p ∈ sb P s, p.b.den ∣ D := fun p hp => by
  obtain ⟨x, hx, rfl⟩ := List.mem_map.mp (sb_perm.mem_iff.mp hp)
  exact h x hx
theorem sb_amt (O : Ord P m) {s : Side} (h : ∀ p ∈ s, 0 ≤ p.a ∧ p.a < (m : Int)) {q : Int} (q0 : 0 ≤ q) (q1 : q < m) : amt (sb P s) q = amt s (sgm P q) := by
  rw [amt_perm sb_perm]
  induction s with
  | nil => rfl
  | cons x s ih =>
    have r := h x List.mem_cons_self
    have e : (sgi P x.a = q) ↔ (x.a = sgm P q) := ⟨fun e => by rw [← e, (O.si r.1 r.2).2], fun e => by rw [e, (O.sr q0 q1).2]⟩
    have := ih fun p hp => h p (List.mem_cons_of_mem _ hp)
    simp only [List.map_cons, amt, this]
    by_cases c : sgi P x.a = q
    · rw [if_pos c, if_pos (e.mp c)]
    · rw [if_neg c, if_neg fun z => c (e.mpr z)]
theorem sb_mem (O : Ord P m) {s : Side} (h : SideOk m s) {q : Int} (q0 : 0 ≤ q) (q1 : q < m) : q ∈ (sb P s).map T2.a ↔ sgm P q ∈ s.map T2.a := by
  rw [← (sb_ok O h).pos_iff, sb_amt O h.rg q0 q1, h.pos_iff]
end
def byD (n : Net) (P D : List Int) : List Deed := D.map fun d => (⟨sb P (dd n d).a, sb P (dd n d).b⟩ : Deed)
section
variable {n : Net} {P D : List Int} {m K : Nat}
theorem by_dd (Q : Ord D K) {k : Int} (k0 : 0 ≤ k) (k1 : k < K) : dd ⟨n.a, byD n P D⟩ k = ⟨sb P (dd n (sgm D k)).a, sb P (dd n (sgm D k)).b⟩ := by
  obtain ⟨h, e⟩ := Q.at k0 k1
  have : dd ⟨n.a, byD n P D⟩ k = (byD n P D).getD k.toNat ⟨[], []⟩ := rfl
  rw [this]
  unfold byD
  rw [List.getD_eq_getElem?_getD, List.getElem?_map, List.getElem?_eq_getElem h, ← e]; rfl
theorem by_ok (hn : NetOk n) (hD : NetD n AM) (hm : n.a = (m : Int)) (hK : n.b.length = K) (O : Ord P m) (Q : Ord D K) : NetOk ⟨n.a, byD n P D⟩ ∧ NetD ⟨n.a, byD n P D⟩ AM := by
  have ql := Q.len
  have hl := hn.ln
  have mem : ∀ d ∈ byD n P D, ∃ x ∈ D, d = ⟨sb P (dd n x).a, sb P (dd n x).b⟩ := fun d hd => by
    obtain ⟨x, hx, e⟩ := List.mem_map.mp hd
    exact ⟨x, hx, e.symm⟩
  refine ⟨⟨hn.m0, hn.m1, by show (byD n P D).length ≤ 100; unfold byD; rw [List.length_map]; omega, fun d hd => ?_⟩, netD_of fun d hd => ?_⟩
  · obtain ⟨x, _, rfl⟩ := mem d hd
    have dk := hn.dok x
    show DeedOk n.a _
    rw [hm] at dk ⊢
    exact ⟨sb_ok O dk.l, sb_ok O dk.r⟩
  · obtain ⟨x, _, rfl⟩ := mem d hd
    exact ⟨sb_den fun p hp => hD.l x p hp, sb_den fun p hp => hD.r x p hp⟩
theorem by_iso (hn : NetOk n) (hD : NetD n AM) (hm : n.a = (m : Int)) (hK : n.b.length = K) (O : Ord P m) (Q : Ord D K) (hp : D.Perm (rg 0 (K : Int))) : Iso n ⟨n.a, byD n P D⟩ (sgm P) (sgi P) (sgm D) (sgi D) := by
  have ql := Q.len
  have lb : (byD n P D).length = K := by unfold byD; rw [List.length_map, ql]
  have dk := fun x => hn.dok x
  rw [hm] at dk
  refine ⟨hn, (by_ok hn hD hm hK O Q).1, fun q q0 q1 => ?_, fun p p0 p1 => ?_, fun k k0 k1 => ?_, fun d d0 d1 => ?_, fun k k0 k1 q q0 q1 => ?_, fun k k0 k1 q q0 q1 => ?_, fun k k0 k1 q q0 q1 => ?_, fun u => ?_⟩
  · rw [hm]; exact O.sr q0 (by rw [← hm]; exact q1)
  · show (_ ∧ _ < n.a) ∧ _
    rw [hm]; exact O.si p0 (by rw [← hm]; exact p1)
  · rw [hK]; exact Q.sr k0 (by rw [← lb]; exact k1)
  · show (_ ∧ _ < ((byD n P D).length : Int)) ∧ _
    rw [lb]; exact Q.si d0 (by rw [← hK]; exact d1)
  · unfold tkN; rw [by_dd Q k0 (by rw [← lb]; exact k1)]
    exact sb_mem O (dk _).l q0 (by rw [← hm]; exact q1)
  · unfold gvN; rw [by_dd Q k0 (by rw [← lb]; exact k1)]
    exact sb_mem O (dk _).r q0 (by rw [← hm]; exact q1)
  · rw [by_dd Q k0 (by rw [← lb]; exact k1)]
    unfold chg
    rw [sb_amt O (dk _).l.rg q0 (by rw [← hm]; exact q1), sb_amt O (dk _).r.rg q0 (by rw [← hm]; exact q1)]
  · show (qs (byD n P D).length fun k => u (sgm D k)) = _
    rw [lb, hK]
    have a := qs_list u (A := D)
    have b := qs_list u (A := rg 0 (K : Int))
    have lr : (rg 0 (K : Int)).length = K := by simp [rg]
    rw [ql] at a
    rw [lr] at b
    have e1 : (qs K fun k => u (sgm D k)) = qs K fun k => u (D.getD k 0) := qs_congr fun k _ => by
      unfold sgm; rw [show ((k : Nat) : Int).toNat = k by omega]
    have e2 : (qs K fun d => u ((d : Nat) : Int)) = qs K fun k => u ((rg 0 (K : Int)).getD k 0) := qs_congr fun k hk => by rw [rg_getD hk]
    rw [e1, a, sum_ord hp u, ← b, e2]
end
section
variable {P : List Int} {m : Nat}
/-- the order the other way -/
def invP (P : List Int) (m : Nat) : List Int := (rg 0 (m : Int)).map (sgi P)
theorem invP_sgm {q : Int} (q0 : 0 ≤ q) (q1 : q < m) : sgm (invP P m) q = sgi P q := by
  unfold sgm invP
  have h : q.toNat < (rg 0 (m : Int)).length := by simp [rg]; omega
  rw [List.getD_eq_getElem?_getD, List.getElem?_map, List.getElem?_eq_getElem h, get_rg]
  show sgi P (0 + (q.toNat : Int)) = sgi P q
  congr 1; omega
theorem Ord.inv (O : Ord P m) : Ord (invP P m) m := by
  refine ⟨by unfold invP; simp [rg], ?_, fun p => ?_⟩
  · refine List.pairwise_map.mpr ((rg_nodup 0 (m : Int)).imp_of_mem fun {a b} ha hb hab e => hab ?_)
    have ra := mem_rg.mp ha
    have rb := mem_rg.mp hb
    rw [← (O.si ra.1 ra.2).2, e, (O.si rb.1 rb.2).2]
  · unfold invP
    rw [List.mem_map]
    constructor
    · rintro ⟨a, ha, rfl⟩
      have ra := mem_rg.mp ha
      exact (O.si ra.1 ra.2).1
    · rintro ⟨p0, p1⟩
      have := O.sr p0 p1
      exact ⟨sgm P p, mem_rg.mpr this.1, this.2⟩
theorem Ord.invi (O : Ord P m) {p : Int} (p0 : 0 ≤ p) (p1 : p < m) : sgi (invP P m) p = sgm P p := by
  have h1 := O.sr p0 p1
  have h2 := O.inv.sr h1.1.1 h1.1.2
  rw [invP_sgm h1.1.1 h1.1.2, h1.2] at h2
  exact h2.2
theorem Ord.perm (O : Ord P m) : P.Perm (rg 0 (m : Int)) := (List.perm_ext_iff_of_nodup O.nd (rg_nodup 0 _)).mpr fun a => by rw [O.mem, mem_rg]
theorem Ord.ix (O : Ord P m) {q : Int} (q0 : 0 ≤ q) (q1 : q < m) : ix P q = .ok (sgm P q) := by
  obtain ⟨h, e⟩ := O.at q0 q1
  rw [ix_of q0 (by rw [O.len]; omega), e]
/-- a list filled in an order -/
theorem fill_eq {α γ : Type} (O : Ord P m) (F : Int → α) {xs : List γ} (hx : xs.length = m) {body : γ → List (Option α) → M (List (Option α))} (hb : ∀ k (hk : k < xs.length), ∀ s, s.length = m → body xs[k] s = setIx s (sgm P k) (some (F k))) :
    forN body xs (vec (m : Int) fun _ => none) = .ok (vec (m : Int) fun q => some (F (sgi P q))) := by
  obtain ⟨s', e, h⟩ := forN_ix (f := body) (fun k s => s = vec (m : Int) fun q => if sgi P q < k then some (F (sgi P q)) else none) (xs := xs) (s := vec (m : Int) fun _ => none) (vec_congr fun j j0 j1 => by
    have := (O.si j0 j1).1
    rw [if_neg (by omega)]) (fun k hk s hs => by
    have r := O.sr (q := (k : Int)) (by omega) (by omega)
    refine ⟨_, ?_, rfl⟩
    rw [hb k hk s (by rw [hs, len_vec]; omega), hs, setIx_vec r.1.1 r.1.2]
    congr 1
    refine vec_congr fun j j0 j1 => ?_
    have s1 := O.si j0 j1
    unfold upd
    dsimp only
    by_cases c : j = sgm P k
    · have e : sgi P j = k := by rw [c]; exact r.2
      rw [if_pos c, e, if_pos (by omega)]
    · have e : sgi P j ≠ k := fun e => c (by rw [← s1.2, e])
      rw [if_neg c]
      by_cases c2 : sgi P j < k
      · rw [if_pos c2, if_pos (by omega)]
      · rw [if_neg c2, if_neg (by omega)])
  rw [e, h]
  congr 1
  refine vec_congr fun j j0 j1 => ?_
  rw [if_pos (by rw [hx]; exact (O.si j0 j1).1.2)]
theorem nrw_some {α : Type} [Ty α] : ∀ L : List α, (Nrw.lst (L.map some) : M (List α)) = .ok L
  | [] => rfl
  | a :: L => by
    have e : (Nrw.nrw (γ := α) (some a)) = .ok a := rfl
    rw [List.map_cons, Nrw.lst, e, nrw_some L]; rfl
theorem nrw_vec {α : Type} [Ty α] {k : Int} {F : Int → α} : (Nrw.nrw (γ := List α) (vec k fun q => some (F q)) : M (List α)) = .ok (vec k F) := by
  have e : (vec k fun q => some (F q)) = (vec k F).map some := by unfold vec; rw [List.map_map]; rfl
  rw [e]
  exact nrw_some _
end
end Fl
namespace Fl
open PySem PySem.Spec PyProof.Rows L2 Sim
def chainD (R : RowF) (i : Int) (a : Rat) : Deed := ⟨[⟨i, a⟩], [⟨i + 1, a * R i * (R (i + 1))⁻¹⟩]⟩
def takeD (z : Int) (a : Rat) : Deed := ⟨[⟨z, a⟩], []⟩
def giveD (z : Int) (a : Rat) : Deed := ⟨[], [⟨z, a⟩]⟩
/-- a chain by rates, and what is beside it -/
structure ChN (n : Net) (R : RowF) (fed : List Int) : Prop where
  h : NetW n
  Rp : ∀ i, 0 < R i
  kinds : ∀ d : Int, 0 ≤ d → d < n.b.length → (∃ i a, 0 ≤ i ∧ i + 1 < n.a ∧ 0 < a ∧ dd n d = chainD R i a) ∨ (∃ z a, (0 ≤ z ∧ z < n.a) ∧ 0 < a ∧ dd n d = takeD z a) ∨ (∃ z a, z ∈ fed ∧ (0 ≤ z ∧ z < n.a) ∧ 0 < a ∧ dd n d = giveD z a)
  has : ∀ i, 0 ≤ i → i + 1 < n.a → ∃ (d : Int) (a : Rat), (0 ≤ d ∧ d < n.b.length) ∧ 0 < a ∧ dd n d = chainD R i a
  fedh : ∀ z ∈ fed, ∃ (d : Int) (a : Rat), (0 ≤ d ∧ d < n.b.length) ∧ 0 < a ∧ dd n d = giveD z a
def Rch (n : Net) (f : RowF) (s : WS) (g : RowF) : Prop := ∃ p : RowF, (∀ d, 0 ≤ p d) ∧ (∀ d, 0 < p d → d ∈ s.2.1) ∧ ∀ i, g i = f i + chP n p i
section
variable {n : Net} {f g R : RowF} {fed : List Int} {s : WS} {x : Int}
theorem Rch.refl : Rch n f s f := ⟨fun _ => 0, fun _ => Rat.le_refl, fun d hd => absurd hd Rat.lt_irrefl, fun i => by
  have : chP n (fun _ => 0) i = 0 := by unfold chP; exact qs_zero fun d _ => by rw [Rat.zero_mul]
  rw [this]; grind⟩
theorem Rch.step (h : Rch n f s g) {d : Int} {t : Rat} (t0 : 0 ≤ t) (ht : 0 < t → d ∈ s.2.1) (d0 : 0 ≤ d) (d1 : d < n.b.length) : Rch n f s fun j => g j + t * chg (dd n d) j := by
  obtain ⟨p, p0, pl, e⟩ := h
  have key : ∀ i, chP n (fun k => uF d t k) i = t * chg (dd n d) i := fun i => by
    obtain ⟨k, hk⟩ : ∃ k : Nat, d = (k : Int) := ⟨d.toNat, by omega⟩
    unfold chP
    rw [qs_pt (a := fun e => uF d t e * chg (dd n e) i) (i := k) (by omega) fun j hj hn => by
      show uF d t j * _ = 0
      unfold uF upd; rw [if_neg (by omega), Rat.zero_mul]]
    show uF d t k * chg (dd n k) i = _
    unfold uF upd; rw [if_pos (by omega), hk]
  refine ⟨fun k => p k + uF d t k, fun k => Rat.add_nonneg (p0 k) ?_, fun k hk => ?_, fun i => ?_⟩
  · unfold uF upd; split
    · exact t0
    · exact Rat.le_refl
  · unfold uF upd at hk
    dsimp only at hk
    by_cases c : k = d
    · rw [if_pos c] at hk
      by_cases c2 : 0 < t
      · rw [c]; exact ht c2
      · exact pl k (by have : t = 0 := by grind
                       rw [this, Rat.add_zero] at hk; exact hk)
    · rw [if_neg c, Rat.add_zero] at hk
      exact pl k hk
  · show g i + t * chg (dd n d) i = _
    rw [chP_add, key, e, Rat.add_assoc]
theorem Rch.ach (S : Wet n f (rg 0 n.b.length) s) (h : Rch n f s g) (g0 : ∀ i, 0 ≤ i → i < n.a → 0 ≤ g i) : Ach n f x (g x) := by
  obtain ⟨p, p0, pl, e⟩ := h
  exact ⟨s, S, p, p0, pl, fun i i0 i1 => by rw [← e]; exact g0 i i0 i1, e x⟩
theorem chain_chg {i j : Int} {a : Rat} : chg (chainD R i a) j = (if i + 1 = j then a * R i * (R (i + 1))⁻¹ else 0) - if i = j then a else 0 := by
  unfold chg chainD
  simp only [amt, Rat.add_zero]
theorem take_chg {z j : Int} {a : Rat} : chg (takeD z a) j = 0 - if z = j then a else 0 := by
  unfold chg takeD
  simp only [amt, Rat.add_zero]
theorem give_chg {z j : Int} {a : Rat} : chg (giveD z a) j = if z = j then a else 0 := by
  unfold chg giveD
  simp only [amt, Rat.add_zero]; grind
/-- a wet place wets the next one -/
theorem ChN.next (C : ChN n R fed) (S : Wet n f (rg 0 n.b.length) s) {i : Int} (i0 : 0 ≤ i) (i1 : i + 1 < n.a) (hi : i ∈ s.1) : ∃ (d : Int) (a : Rat), (0 ≤ d ∧ d < n.b.length) ∧ 0 < a ∧ dd n d = chainD R i a ∧ d ∈ s.2.1 ∧ i + 1 ∈ s.1 := by
  obtain ⟨d, a, hd, a0, e⟩ := C.has i i0 i1
  have hm : d ∈ s.2.1 := S.cl d (mem_rg.mpr hd) fun p hp => by
    unfold tkN at hp
    rw [e] at hp
    have : p = i := by simpa [chainD] using hp
    rw [this]; exact hi
  refine ⟨d, a, hd, a0, e, hm, (S.wi _).mpr (.inr ⟨d, hm, ?_⟩)⟩
  unfold gvN
  rw [e]
  simp [chainD]
theorem al1 {g a b : Rat} (h : a * b = 1) : g + g * b * (0 - a) = 0 := by
  have e : g * b * a = g := by rw [Rat.mul_assoc, Rat.mul_comm b a, h, Rat.mul_one]
  have e2 : g * b * (0 - a) = -(g * b * a) := by rw [Rat.sub_eq_add_neg, Rat.zero_add, Rat.mul_neg]
  rw [e2, e, Rat.add_neg_cancel]
theorem al2 {f g a b r q : Rat} (h : a * b = 1) : f + g * b * (a * r * q - 0) = f + r * g * q := by
  have e : a * r * q - 0 = a * r * q := by rw [Rat.sub_eq_add_neg, Rat.neg_zero, Rat.add_zero]
  have e2 : g * b * (a * r * q) = r * g * q := by
    rw [show g * b * (a * r * q) = (a * b) * (r * g * q) by grind, h, Rat.one_mul]
  rw [e, e2]
theorem al3 {g t : Rat} : g + t * (0 - 0) = g := by
  rw [show (0 : Rat) - 0 = 0 from Rat.sub_self, Rat.mul_zero, Rat.add_zero]
theorem al4 {q f g r p : Rat} (h : q * p = 1) : q * (f + r * g * p) = r * g + q * f := by
  rw [Rat.mul_add, show q * (r * g * p) = (q * p) * (r * g) by grind, h, Rat.one_mul, Rat.add_comm]
end
end Fl
namespace Fl
open PySem PySem.Spec PyProof.Rows L2 Sim
section
variable {n : Net} {f g R : RowF} {fed : List Int} {s : WS} {x : Int}
/-- all of the first places gathered at one -/
theorem ChN.gather (C : ChN n R fed) (f0 : ∀ j, 0 ≤ f j) (S : Wet n f (rg 0 n.b.length) s) : ∀ k : Nat, (k : Int) < n.a → ∃ g, Rch n f s g ∧ (∀ j, 0 ≤ g j) ∧ R k * g k = (qs (k + 1) fun j => R j * f j) ∧ (∀ j : Int, (k : Int) < j → g j = f j) ∧ (0 < g k → (k : Int) ∈ s.1)
  | 0, h0 => ⟨f, Rch.refl, f0, by show R 0 * f 0 = 0 + R 0 * f 0; rw [Rat.zero_add], fun j _ => rfl, fun h => (S.wi _).mpr (.inl (mem_wt.mpr ⟨⟨by omega, h0⟩, h⟩))⟩
  | k + 1, h1 => by
    obtain ⟨g, G, g0, gs, gj, gw⟩ := ChN.gather C f0 S k (by omega)
    have e1 : ((k + 1 : Nat) : Int) = (k : Int) + 1 := by omega
    obtain ⟨d, a, hd, a0, e⟩ := C.has (k : Int) (by omega) (by omega)
    have Rk := C.Rp k
    have Rk1 := C.Rp ((k : Int) + 1)
    have ai : 0 < a⁻¹ := Rat.inv_pos.mpr a0
    have aa : a * a⁻¹ = 1 := Rat.mul_inv_cancel _ (by grind)
    have rr : R ((k : Int) + 1) * (R ((k : Int) + 1))⁻¹ = 1 := Rat.mul_inv_cancel _ (by grind)
    have t0 : 0 ≤ g k * a⁻¹ := Rat.mul_nonneg (g0 k) (Rat.le_of_lt ai)
    have gn : (k : Int) ∈ s.1 → d ∈ s.2.1 := fun hk => S.cl d (mem_rg.mpr hd) fun p hp => by
      unfold tkN at hp
      rw [e] at hp
      have : p = k := by simpa [chainD] using hp
      rw [this]; exact hk
    have pos : 0 < g k * a⁻¹ → 0 < g k := fun h => by
      apply Classical.byContradiction
      intro hn
      have : g k = 0 := by have := g0 k; grind
      rw [this, Rat.zero_mul] at h
      exact Rat.lt_irrefl h
    have ck : g k + g k * a⁻¹ * chg (dd n d) k = 0 := by
      rw [e, chain_chg, if_neg (by omega), if_pos rfl]
      exact al1 aa
    have cn : g ((k : Int) + 1) + g k * a⁻¹ * chg (dd n d) ((k : Int) + 1) = f ((k : Int) + 1) + R k * g k * (R ((k : Int) + 1))⁻¹ := by
      rw [e, chain_chg, if_pos rfl, if_neg (by omega), gj _ (by omega)]
      exact al2 aa
    have co : ∀ j : Int, j ≠ k → j ≠ (k : Int) + 1 → g j + g k * a⁻¹ * chg (dd n d) j = g j := fun j h1 h2 => by
      rw [e, chain_chg, if_neg (by omega), if_neg (by omega)]
      exact al3
    have ri : 0 < (R ((k : Int) + 1))⁻¹ := Rat.inv_pos.mpr Rk1
    refine ⟨_, G.step (d := d) t0 (fun h => gn (gw (pos h))) hd.1 hd.2, fun j => ?_, ?_, fun j hj => ?_, fun h => ?_⟩
    · skip
      by_cases c1 : j = k
      · rw [c1, ck]; exact Rat.le_refl
      · by_cases c2 : j = (k : Int) + 1
        · rw [c2, cn]
          exact Rat.add_nonneg (f0 _) (Rat.mul_nonneg (Rat.mul_nonneg (Rat.le_of_lt Rk) (g0 k)) (Rat.le_of_lt ri))
        · rw [co j c1 c2]; exact g0 j
    · skip
      rw [qs, ← gs, e1, cn]
      exact al4 rr
    · skip
      rw [co j (by omega) (by omega)]
      exact gj j (by omega)
    · rw [e1, cn] at h
      rw [e1]
      by_cases c : 0 < f ((k : Int) + 1)
      · exact (S.wi _).mpr (.inl (mem_wt.mpr ⟨⟨by omega, by omega⟩, c⟩))
      · have z : f ((k : Int) + 1) = 0 := by have := f0 ((k : Int) + 1); grind
        have gk : 0 < g k := by
          apply Classical.byContradiction
          intro hn
          have : g k = 0 := by have := g0 k; grind
          rw [z, this, Rat.mul_zero, Rat.zero_mul, Rat.add_zero] at h
          exact Rat.lt_irrefl h
        have hm := gn (gw gk)
        refine (S.wi _).mpr (.inr ⟨d, hm, ?_⟩)
        unfold gvN
        rw [e]
        simp [chainD]
theorem al5 {r q s p a : Rat} (h : q * s = 1) : q * p * (a * r * s) - r * p * a = 0 := by
  rw [show q * p * (a * r * s) = (q * s) * (r * p * a) by grind, h, Rat.one_mul, Rat.sub_self]
theorem al6 {r p f : Rat} : r * p * f = p * (r * f) := by rw [Rat.mul_comm r p, Rat.mul_assoc]
theorem al8 {w a b : Rat} : w * (a - b) = w * a - w * b := by grind
theorem al9 {u : Rat} (h : 0 ≤ u) : 0 - u ≤ 0 := by grind
theorem al10 {u : Rat} (h : u ≤ 0) : 0 ≤ -u := by grind
theorem al11 {u : Rat} (h : 0 ≤ (-1) * u) : u ≤ 0 := by grind
theorem al12 {u v : Rat} (h : u ≤ 0) : v + u ≤ v := by grind
theorem qs_cut {a : Nat → Rat} {k : Nat} : ∀ {r : Nat}, (∀ i, k ≤ i → a i = 0) → qs (k + r) a = qs k a
  | 0, _ => rfl
  | r + 1, h => by
    show qs (k + r) a + a (k + r) = _
    rw [qs_cut h, h (k + r) (by omega), Rat.add_zero]
theorem ChN.top (C : ChN n R fed) (f0 : ∀ j, 0 ≤ f j) {k : Nat} (hk : (k : Int) < n.a) (hf : ∀ z ∈ fed, (k : Int) < z) : IsTop n f k ((qs (k + 1) fun j => R j * f j) * (R k)⁻¹) := by
  have Rk := C.Rp k
  have rr : R k * (R k)⁻¹ = 1 := Rat.mul_inv_cancel _ (by grind)
  have ri : 0 < (R k)⁻¹ := Rat.inv_pos.mpr Rk
  constructor
  · obtain ⟨s, S⟩ := wet_ex C.h f
    obtain ⟨g, G, g0, gs, _, _⟩ := C.gather f0 S k hk
    have e : (qs (k + 1) fun j => R j * f j) * (R k)⁻¹ = g k := by rw [← gs, Rat.mul_comm (R k) (g k), Rat.mul_assoc, rr, Rat.mul_one]
    rw [e]
    exact G.ach S fun i _ _ => g0 i
  · rintro q ⟨s, S, p, p0, pl, up, rfl⟩
    have hm0 := C.h.m0
    obtain ⟨W, wl, wh⟩ : ∃ W : RowF, (∀ i : Int, i ≤ k → W i = R i * (R k)⁻¹) ∧ ∀ i : Int, ¬ i ≤ k → W i = 0 := ⟨fun i => if i ≤ k then R i * (R k)⁻¹ else 0, fun i h => if_pos h, fun i h => if_neg h⟩
    have w0 : ∀ j, 0 ≤ W j := fun j => by
      by_cases c : j ≤ k
      · rw [wl j c]; exact Rat.mul_nonneg (Rat.le_of_lt (C.Rp j)) (Rat.le_of_lt ri)
      · rw [wh j c]; exact Rat.le_refl
    have wk : W k = 1 := by rw [wl _ (by omega), rr]
    have h1 : f k + chP n p k ≤ wsm n.a.toNat W fun i => f i + chP n p i := pt_le (g := fun i => f i + chP n p i) (x := (k : Int)) (by omega) (by omega) (fun j j0 j1 => w0 j) (by rw [wk]; exact Rat.le_refl) (fun j j0 j1 => up j j0 (by omega))
    have h2 : (wsm n.a.toNat W fun i => f i + chP n p i) = wsm n.a.toNat W f + wsm n.a.toNat W (chP n p) := by
      unfold wsm
      rw [← qs_add]
      exact qs_congr fun i _ => Rat.mul_add _ _ _
    have wu : ∀ {i : Int} {b : Rat}, 0 ≤ i → i < n.a → (wsm n.a.toNat W fun j => if i = j then b else 0) = W i * b := fun {i b} i0 i1 => by
      have : (fun j => if i = j then b else 0) = uF i b := funext fun j => by
        unfold uF upd
        by_cases c : i = j
        · rw [if_pos c, if_pos c.symm]
        · rw [if_neg c, if_neg fun q => c q.symm]
      rw [this]
      exact wsm_uF i0 (by omega)
    have ws : ∀ {A B : RowF}, (wsm n.a.toNat W fun j => A j - B j) = wsm n.a.toNat W A - wsm n.a.toNat W B := fun {A B} => by
      unfold wsm
      rw [← qs_sub]
      exact qs_congr fun i _ => al8
    have wz : (wsm n.a.toNat W fun _ => 0) = 0 := by unfold wsm; exact qs_zero fun i _ => Rat.mul_zero _
    have hd : ∀ d : Nat, d < n.b.length → wch n W d ≤ 0 := fun d hd => by
      unfold wch
      rcases C.kinds d (by omega) (by omega) with ⟨i, a, i0, i1, a0, e⟩ | ⟨z, a, hz, a0, e⟩ | ⟨z, a, zf, hz, a0, e⟩
      · rw [e]
        have e1 : chg (chainD R i a) = fun j => (if i + 1 = j then a * R i * (R (i + 1))⁻¹ else 0) - if i = j then a else 0 := funext fun j => chain_chg
        rw [e1, ws, wu (by omega) i1, wu i0 (by omega)]
        have Ri := C.Rp i
        have Ri1 := C.Rp (i + 1)
        have r1 : R (i + 1) * (R (i + 1))⁻¹ = 1 := Rat.mul_inv_cancel _ (by grind)
        by_cases c : i + 1 ≤ k
        · rw [wl _ c, wl i (by omega), al5 r1]
          exact Rat.le_refl
        · rw [wh _ c, Rat.zero_mul]
          exact al9 (Rat.mul_nonneg (w0 i) (Rat.le_of_lt a0))
      · rw [e]
        have e1 : chg (takeD z a) = fun j => (fun _ => (0 : Rat)) j - (fun j => if z = j then a else 0) j := funext fun j => take_chg
        rw [e1, ws, wz, wu hz.1 hz.2]
        exact al9 (Rat.mul_nonneg (w0 z) (Rat.le_of_lt a0))
      · rw [e]
        have e1 : chg (giveD z a) = fun j => if z = j then a else 0 := funext fun j => give_chg
        rw [e1, wu hz.1 hz.2]
        rw [wh z (by have := hf z zf; omega), Rat.zero_mul]
        exact Rat.le_refl
    have h3 : (qs n.b.length fun d => p d * wch n W d) ≤ 0 := by
      have : 0 ≤ qs n.b.length fun d => (-1) * (p d * wch n W d) := qs_nonneg fun d hd' => by
        have := Rat.mul_nonneg (p0 d) (al10 (hd d hd'))
        rw [Rat.mul_neg] at this
        rw [Rat.neg_mul, Rat.one_mul]
        exact this
      rw [qs_mul] at this
      exact al11 this
    rw [wsm_chP] at h2
    have h4 : wsm n.a.toNat W f = (qs (k + 1) fun j => R j * f j) * (R k)⁻¹ := by
      unfold wsm
      obtain ⟨r, hr⟩ : ∃ r, n.a.toNat = (k + 1) + r := ⟨n.a.toNat - (k + 1), by omega⟩
      rw [hr, qs_cut (k := k + 1) fun i hi => by
        rw [wh (i : Int) (by omega), Rat.zero_mul]]
      rw [Rat.mul_comm, ← qs_mul]
      exact qs_congr fun i hi => by
        rw [wl (i : Int) (by omega)]
        exact al6
    rw [h2, h4] at h1
    exact Rat.le_trans h1 (al12 h3)
end
end Fl
namespace Fl
open PySem PySem.Spec PyProof.Rows L2
open Ty (enc)
end Fl
namespace Fl
open PySem PySem.Spec PyProof.Rows L2 Sim
open Ty (enc)
end Fl
namespace Fl
open PySem PySem.Spec PyProof.Rows L2
def ltD : D → Option (List D)
  | .frz ds => some ds
  | .lst _ ds => some ds
  | _ => none
def gTL (n : Nat) (fs : Tgts) : Tgt := fun d env => match ltD d with
  | some ds => if ds.length = n then fs ds env else none
  | none => none
@[simp] theorem gTL_app {n : Nat} {ts : Tgts} {d : D} {env : Env} : gTL n ts d env = (match ltD d with | some ds => if ds.length = n then ts ds env else none | none => none) := rfl
end Fl
namespace Fl
open PySem
open Ty (enc)
namespace Nrw
def f2of {α : Type} : List α → M (F2 α α)
  | [a, b] => .ok ⟨a, b⟩
  | _ => .no
theorem f2no {α : Type} : ∀ xs : List α, (∃ c, f2of xs = .ok c) ∨ f2of xs = .no
  | [a, b] => .inl ⟨_, rfl⟩
  | [] => .inr rfl
  | [a] => .inr rfl
  | a :: b :: c :: r => .inr rfl
instance f2l {α : Type} [Ty α] : Nrw (List α) (F2 α α) := ⟨f2of, fun xs c h => (by
    match xs, h with
    | [a, b], h => cases h; rfl
    | [], h => cases h
    | [a], h => cases h
    | a :: b :: c :: r, h => cases h), f2no⟩
end Nrw
end Fl
namespace Fl
open PySem PySem.Spec PyProof.Rows L2 Sim
open Ty (enc)
end Fl
set_option synthInstance.maxHeartbeats 400000
set_option synthInstance.maxSize 4000
namespace Fl
open PySem PySem.Spec PyProof.Rows L2
open Ty (enc)
end Fl
namespace Sim
structure Gau (m n : Nat) (T : Nat → Nat → Int) (R : Nat → Nat → Int) (y : Int) (b : Nat → Nat) : Prop where
  ne : y ≠ 0
  lt : ∀ i, i < m → b i < n + m
  unit : ∀ i k, i < m → k < m → R i (b k) = if i = k then y else 0
  row : ∀ i j, i < m → j ≤ n + m → R i j = sm m fun k => R i (n + k) * T k j
  col : ∀ k j, k < m → j ≤ n + m → y * T k j = sm m fun i => R i j * T k (b i)
  dt : ∀ i j, i < m → j ≤ n + m → R i j = det m (rpl (fun l k => T k (b l)) i fun k => T k j)
  db : y = det m fun l k => T k (b l)
section
variable {m n : Nat} {T R : Nat → Nat → Int} {y : Int} {b : Nat → Nat}
/-- by the columns of the base -/
theorem Gau.exp (v : Gau m n T R y b) {w : Nat → Nat → Int} {i j : Nat} (hi : i < m) (hj : j ≤ n + m) : y * det m (rpl w i fun k => T k j) = sm m fun l => R l j * det m (rpl w i fun k => T k (b l)) := by
  have h1 := det_lin w y 0 (fun k => T k j) (fun _ => 0) hi
  simp only [Int.zero_mul, Int.add_zero] at h1
  rw [← h1, ← det_sum w (fun l => R l j) (fun l k => T k (b l)) hi m]
  refine det_congr fun a k ha hk => ?_
  unfold rpl
  split
  · exact v.col k j hk hj
  · rfl
/-- an item behind, by its determinant -/
theorem Gau.item (v : Gau m n T R y b) {r s i j : Nat} (hr : r < m) (hi : i < m) (hir : i ≠ r) (hs : s ≤ n + m) (hj : j ≤ n + m) :
    y * det m (rpl (fun l k => T k (updB b r s l)) i fun k => T k j) = R i j * R r s - R i s * R r j := by
  rw [v.exp hi hj, sm_two hi hr hir]
  · have h1 : det m (rpl (fun l k => T k (updB b r s l)) i fun k => T k (b i)) = R r s := by
      rw [v.dt r s hr hs, cols_upd]
      congr 1
      have : (fun k => T k (b i)) = rpl (fun l k => T k (b l)) r (fun k => T k s) i := by rw [rpl_ne hir]
      rw [this, rpl_self]
    have h2 : det m (rpl (fun l k => T k (updB b r s l)) i fun k => T k (b r)) = - R i s := by
      rw [v.dt i s hi hs, cols_upd, det_swap hr hi (Ne.symm hir)]
      congr 2
      have : (fun k => T k (b r)) = (fun l k => T k (b l)) r := rfl
      rw [this, rpl_self]
    rw [h1, h2, Int.mul_neg, Int.mul_comm (R r j)]; omega
  · intro l hl h1 h2
    rw [det_alt (s := i) (t := l) hi hl (Ne.symm h1) fun k hk => by rw [rpl_same, rpl_ne h1]; unfold updB; rw [if_neg h2]]; simp
theorem Gau.newR_det (v : Gau m n T R y b) {r s i j : Nat} (hr : r < m) (hi : i < m) (hs : s ≤ n + m) (hj : j ≤ n + m) : newR R y r s i j = det m (rpl (fun l k => T k (updB b r s l)) i fun k => T k j) := by
  have hy : y ≠ 0 := v.ne
  unfold newR
  by_cases e : i = r
  · subst e
    rw [if_pos rfl, v.dt i j hi hj, cols_upd, rpl_rpl]
  · rw [if_neg e, ← v.item hr hi e hs hj, Int.mul_fdiv_cancel_left _ hy]
theorem Gau.newR_mul (v : Gau m n T R y b) {r s i j : Nat} (hr : r < m) (hi : i < m) (hir : i ≠ r) (hs : s ≤ n + m) (hj : j ≤ n + m) : y * newR R y r s i j = R i j * R r s - R i s * R r j := by
  rw [v.newR_det hr hi hs hj, v.item hr hi hir hs hj]
/-- an exchange by a row that puts the column to nought first -/
theorem Gau.step (v : Gau m n T R y b) {r s : Nat} (hr : r < m) (hs : s < n) (hp : R r s ≠ 0) : Gau m n T (newR R y r s) (R r s) (updB b r s) := by
  have hy : y ≠ 0 := v.ne
  have hsm : s ≤ n + m := by omega
  have hrow : ∀ j, newR R y r s r j = R r j := fun j => if_pos rfl
  refine ⟨hp, fun i hi => ?_, fun i k hi hk => ?_, fun i j hi hj => ?_, fun k j hk hj => ?_, fun i j hi hj => v.newR_det hr hi hsm hj, ?_⟩
  · unfold updB; split
    · omega
    · exact v.lt i hi
  · by_cases ek : k = r
    · subst ek
      have hb : updB b k s k = s := if_pos rfl
      rw [hb]
      by_cases ei : i = k
      · subst ei; rw [hrow, if_pos rfl]
      · rw [if_neg ei]
        refine canc hy ?_
        rw [v.newR_mul hr hi ei hsm hsm]; simp [Int.sub_self]
    · have hb : updB b r s k = b k := if_neg ek
      have hbk : b k ≤ n + m := by have := v.lt k hk; omega
      rw [hb]
      by_cases ei : i = r
      · subst ei; rw [hrow, v.unit i k hi hk, if_neg (Ne.symm ek), if_neg (Ne.symm ek)]
      · refine canc hy ?_
        rw [v.newR_mul hr hi ei hsm hbk, v.unit i k hi hk, v.unit r k hr hk, if_neg (Ne.symm ek)]
        split <;> simp
  · by_cases ei : i = r
    · subst ei
      rw [hrow, v.row i j hi hj]
      exact sm_congr fun k _ => by rw [hrow]
    · refine canc hy ?_
      rw [v.newR_mul hr hi ei hsm hj, ← sm_mul, v.row i j hi hj, v.row r j hr hj, ← sm_mulR, ← sm_mul, ← sm_sub]
      refine sm_congr fun k hk => ?_
      have q := v.newR_mul (j := n + k) hr hi ei hsm (by omega)
      have q2 : y * (newR R y r s i (n + k) * T k j) = (y * newR R y r s i (n + k)) * T k j := (Int.mul_assoc _ _ _).symm
      rw [q2, q, Int.sub_mul]
      simp only [Int.mul_assoc, Int.mul_comm, Int.mul_left_comm]
  · refine canc hy ?_
    have h1 := v.col k j hk hj
    have h2 := v.col k s hk hsm
    have e1 : y * (R r s * T k j) = R r s * sm m fun i => R i j * T k (b i) := by rw [← h1, Int.mul_left_comm]
    rw [e1, ← sm_mul]
    have e2 : (sm m fun i => y * (newR R y r s i j * T k (updB b r s i))) = (sm m fun i => (R i j * R r s - R i s * R r j) * T k (b i)) - 0 + y * (R r j * T k s) := by
      rw [sm_out (g := fun i => (R i j * R r s - R i s * R r j) * T k (b i)) hr fun i hi hn => ?_]
      · rw [hrow]
        have : updB b r s r = s := if_pos rfl
        rw [this]
        simp only [Int.mul_comm (R r j) (R r s), Int.sub_self, Int.zero_mul]
      · have : updB b r s i = b i := if_neg hn
        rw [this, ← Int.mul_assoc, v.newR_mul hr hi hn hsm hj]
    rw [← sm_mul, e2]
    have e3 : y * (R r j * T k s) = R r j * sm m fun i => R i s * T k (b i) := by rw [← h2, Int.mul_left_comm]
    rw [e3, ← sm_mul, Int.sub_zero, ← sm_add]
    refine sm_congr fun i _ => ?_
    rw [Int.sub_mul]
    have : R i s * R r j * T k (b i) = R r j * (R i s * T k (b i)) := by simp only [Int.mul_assoc, Int.mul_comm, Int.mul_left_comm]
    rw [this]
    have : R i j * R r s * T k (b i) = R r s * (R i j * T k (b i)) := by simp only [Int.mul_assoc, Int.mul_comm, Int.mul_left_comm]
    rw [this]; omega
  · rw [v.dt r s hr hsm, cols_upd]
end
end Sim
namespace Fl
open PySem PySem.Spec PyProof.Rows L2 Sim
open Ty (enc)
section
variable {K n D Z β : Nat} {A : Int → RowF}
/-- an item as a fraction -/
def rq (R : Nat → Nat → Int) (y : Int) (i j : Nat) : Rat := Rat.divInt (R i j) y
def cl (m : Int) (f : RowF) : RowF := fun j => if 0 ≤ j ∧ j < m then f j else 0
end
end Fl
namespace Fl
open PySem PySem.Spec PyProof.Rows L2 Sim
open Ty (enc)
end Fl
namespace Fl
open PySem PySem.Spec PyProof.Rows L2 Sim
open Ty (enc)
end Fl
namespace Fl
open PySem PySem.Spec PyProof.Rows L2 Sim
open Ty (enc)
end Fl
namespace Fl
open PySem PySem.Spec PyProof.Rows L2
open Ty (enc)
structure Am2 (q : Rat) : Prop where
  q0 : 0 < q
  sz : Sz q 40
  dn : q.den ∣ 2520
theorem den_dvdI {a b : Int} (hb : 0 < b) : (Rat.divInt a b).den ∣ b.natAbs := by
  rw [Rat.den_divInt, if_neg (by omega)]
  exact Nat.div_dvd_of_dvd (Nat.gcd_dvd_left _ _)
theorem low9 (k : Nat) (h0 : 0 < k) (h1 : k < 10) : k ∣ 2520 := by
  have : k = 1 ∨ k = 2 ∨ k = 3 ∨ k = 4 ∨ k = 5 ∨ k = 6 ∨ k = 7 ∨ k = 8 ∨ k = 9 := by omega
  rcases this with rfl | rfl | rfl | rfl | rfl | rfl | rfl | rfl | rfl <;> decide
theorem amount2A {r : F2 Int Int} (hr : Pl r) : ∃ q r', f_amount2 r = .ok (q, r') ∧ Pl r' ∧ Am2 q := by
  obtain ⟨x, r1, e1, hr1, x0, x1⟩ := take2_eq hr (n := 6) (by decide) (by decide)
  unfold f_amount2
  simp only [e1, M.call_ok, M.ok_bind2]
  by_cases h3 : x < 3
  · obtain ⟨y, r2, e2, hr2, y0, y1⟩ := take2_eq hr1 (n := 9) (by decide) (by decide)
    have eq : toQ ⟨1 + y, 1⟩ = .ok ((1 + y : Int) : Rat) := by
      have := toQ_of (q := ((1 + y : Int) : Rat))
      rwa [Rat.num_intCast, Rat.den_intCast] at this
    exact ⟨((1 + y : Int) : Rat), r2, by simp [h3, e2, eq], hr2, by exact_mod_cast (show 0 < 1 + y by omega), sz_int (by omega) (by decide), by rw [Rat.den_intCast]; exact Nat.one_dvd _⟩
  · by_cases h5 : x < 5
    · obtain ⟨y, r2, e2, hr2, y0, y1⟩ := take2_eq hr1 (n := 9) (by decide) (by decide)
      refine ⟨Rat.divInt (1 + y) (x - 1), r2, ?_, hr2, divInt_pos' (by omega) (by omega), sz_divInt (by omega) (by omega) (by omega), Nat.dvd_trans (den_dvdI (by omega)) (low9 _ (by omega) (by omega))⟩
      simp [h3, h5, e2, low_eq (a := 1 + y) (b := x - 1) (by omega) (lim9 (n := 48) (by omega) (by decide))]
    · obtain ⟨y, r2, e2, hr2, y0, y1⟩ := take2_eq hr1 (n := 1000000) (by decide) (by decide)
      obtain ⟨z, r3, e3, hr3, z0, z1⟩ := take2_eq hr2 (n := 1000000) (by decide) (by decide)
      obtain ⟨w, r4, e4, hr4, w0, w1⟩ := take2_eq hr3 (n := 9) (by decide) (by decide)
      have e5 : mulI y 1000000 = .ok (y * 1000000) := mulI_small (by omega) (by decide)
      refine ⟨Rat.divInt (1 + y * 1000000 + z) (1 + w), r4, ?_, hr4, divInt_pos' (by omega) (by omega), sz_divInt (by omega) (by omega) (by omega), Nat.dvd_trans (den_dvdI (by omega)) (low9 _ (by omega) (by omega))⟩
      simp [h3, h5, e2, e3, e4, e5, low_eq (a := 1 + y * 1000000 + z) (b := 1 + w) (by omega) (lim9 (n := 48) (by omega) (by decide))]
theorem Am2.sz48 {q : Rat} (h : Am2 q) : Sz q 48 := h.sz.mono (by decide)
structure SideA (m : Int) (s : Side) : Prop where
  ok : SideOk m s
  am : ∀ p ∈ s, Am2 p.b
theorem side2A {r : F2 Int Int} {m : Int} (hr : Pl r) (m0 : 0 < m) (m1 : m ≤ 1000) : ∃ s r', f_side2 r m = .ok (s, r') ∧ Pl r' ∧ SideA m s ∧ s.length ≤ m := by
  obtain ⟨n, r1, e1, hr1, n0, n1⟩ := take2_eq hr (n := 4) (by decide) (by decide)
  unfold f_side2
  simp only [e1, M.call_ok, M.ok_bind2]
  rw [rgM_of (by omega) (by omega)]
  simp only [M.ok_bind]
  obtain ⟨ys, r2, e2, hr2, hs, ha⟩ := fltS_ix (g := fun (x7 : Int) (s6 : (F2 Int Int)) => ((f_take2 s6 m).call.bind2 fun (v8 : Int) (pool_here9 : (F2 Int Int)) => (if (decide (v8 < n)) then (f_amount2 pool_here9 ).call.bind2 fun (v10 : Rat) (pool_here11 : (F2 Int Int)) => M.ok (some (⟨x7, v10⟩ : (T2 Int Rat)), pool_here11) else M.ok (none, pool_here9)) : M ((Option (T2 Int Rat)) × (F2 Int Int)))) (xs := rg 0 m) (s := r1)
    (fun k (ys : List (T2 Int Rat)) s => Pl s ∧ (ys.map T2.a).Sublist ((rg 0 m).take k) ∧ ∀ p ∈ ys, Am2 p.b) (by simp; omega) ⟨hr1, by simp, by simp⟩ (fun k hk ys s hs => by
      obtain ⟨h1, h2, h3⟩ := hs
      obtain ⟨v, r2, e2, hr2, v0, v1⟩ := take2_eq h1 (n := m) m0 (by omega)
      have ht : (rg 0 m).take (k + 1) = (rg 0 m).take k ++ [(rg 0 m)[k]] := by rw [List.take_add_one, List.getElem?_eq_getElem hk]; rfl
      by_cases hv : v < n
      · obtain ⟨q, r3, e3, hr3, q0⟩ := amount2A hr2
        refine ⟨some ⟨(rg 0 m)[k], q⟩, r3, by simp [e2, hv, e3], hr3, ?_, fun p hp => ?_⟩
        · rw [ht, List.map_append]; exact h2.append (List.Sublist.refl _)
        · rcases List.mem_append.mp hp with z | z
          · exact h3 p z
          · simp at z; subst z; exact q0
      · exact ⟨none, r2, by simp [e2, hv], hr2, by rw [ht, Option.toList_none, List.append_nil]; exact h2.trans (List.sublist_append_left _ _), by simpa using h3⟩)
  rw [e2]
  have hs' : (ys.map T2.a).Sublist (rg 0 m) := by rwa [List.take_of_length_le (Nat.le_refl _)] at hs
  have hl : ys.length ≤ m := by have := hs'.length_le; simp at this; omega
  exact ⟨ys, r2, rfl, hr2, ⟨⟨(rg_lt 0 m).sublist hs', fun p hp => mem_rg.mp (hs'.subset (List.mem_map_of_mem hp)), fun p hp => ⟨(ha p hp).q0, (ha p hp).sz48⟩, by omega⟩, ha⟩, hl⟩
theorem itemsA {m : Int} {xs : Side} (hl : xs.length < 64) (hr : ∀ p ∈ xs, (0 ≤ p.a ∧ p.a < m) ∧ Am2 p.b) : ∃ s, itemsM xs = .ok s ∧ SideA m s ∧ s.length ≤ xs.length := by
  obtain ⟨s, e, hs, hn⟩ := items_eq (m := m) hl fun p hp => ⟨(hr p hp).1, (hr p hp).2.q0, (hr p hp).2.sz48⟩
  have pm := sortG_perm (mergeG (xs.map t2p))
  have hm : ∀ p ∈ (sortG (mergeG (xs.map t2p))).map p2t, p ∈ xs := fun p hp => by
    obtain ⟨q, hq, rfl⟩ := List.mem_map.mp hp
    obtain ⟨t, ht, rfl⟩ := List.mem_map.mp (mem_mergeG (pm.mem_iff.mp hq))
    exact ht
  have e2 : itemsM xs = .ok ((sortG (mergeG (xs.map t2p))).map p2t) := if_pos hl
  rw [e2] at e
  cases e
  exact ⟨_, e2, ⟨hs, fun p hp => (hr p (hm p hp)).2⟩, hn⟩
theorem sideA_one {m : Int} {p : T2 Int Rat} (h : 0 ≤ p.a ∧ p.a < m) (ha : Am2 p.b) : SideA m [p] := ⟨SideOk.one h ⟨ha.q0, ha.sz48⟩, by simpa using ha⟩
theorem deed2A {r : F2 Int Int} {m : Int} (hr : Pl r) (m0 : 0 < m) (m1 : m ≤ 1000) : ∃ d r', f_deed2 r m = .ok (d, r') ∧ Pl r' ∧ (SideA m d.a ∧ SideA m d.b) ∧ d.a.length ≤ m + 2 ∧ d.b.length ≤ m + 2 := by
  obtain ⟨way, r1, e1, hr1, _, _⟩ := take2_eq hr (n := 4) (by decide) (by decide)
  obtain ⟨at5, r2, e2, hr2, a0, a1⟩ := take2_eq hr1 (n := m) m0 (by omega)
  unfold f_deed2
  simp only [e1, e2, M.call_ok, M.ok_bind2]
  by_cases hw : way = 0
  · obtain ⟨s, r3, e3, hr3, hs, hl⟩ := side2A hr2 m0 m1
    obtain ⟨t, r4, e4, hr4, ht, hl2⟩ := side2A hr3 m0 m1
    exact ⟨⟨s, t⟩, r4, by simp [hw, e3, e4], hr4, ⟨hs, ht⟩, by dsimp only; omega, by dsimp only; omega⟩
  · obtain ⟨q, r3, e3, hr3, q0⟩ := amount2A hr2
    obtain ⟨b, r4, e4, hr4, b0, b1⟩ := take2_eq hr3 (n := m) m0 (by omega)
    obtain ⟨q', r5, e5, hr5, q0'⟩ := amount2A hr4
    have n0 := Int.emod_nonneg (at5 + 1 + b) (show m ≠ 0 by omega)
    have n1 := Int.emod_lt_of_pos (at5 + 1 + b) m0
    generalize hc : (at5 + 1 + b) % m = c at n0 n1
    simp only [hw, decide_false, Bool.false_eq_true, if_false, e3, e4, modI_of m0, hc, e5, M.call_ok, M.ok_bind, M.ok_bind2]
    obtain ⟨r6, gv, e6, hr6, hg, hgl⟩ : ∃ (r6 : F2 Int Int) (gv : Side), (if (decide ((way : Int) = (2 : Int))) then ((f_amount2 r5 ).call.bind2 fun (v19 : Rat) (pool_here20 : (F2 Int Int)) => (catL ([(⟨c, q'⟩ : (T2 Int Rat))] : (List (T2 Int Rat))) ([(⟨at5, v19⟩ : (T2 Int Rat))] : (List (T2 Int Rat)))).bind fun (xs21 : (List (T2 Int Rat))) => (itemsM xs21).bind fun (v22 : (List (T2 Int Rat))) => M.ok (pool_here20, v22) : M ((F2 Int Int) × (List (T2 Int Rat)))) else M.ok (r5, ([(⟨c, q'⟩ : (T2 Int Rat))] : (List (T2 Int Rat))))) = .ok (r6, gv) ∧ Pl r6 ∧ SideA m gv ∧ gv.length ≤ 2 := by
      by_cases h2 : way = 2
      · obtain ⟨q2, r6, w1, hr6, z0⟩ := amount2A hr5
        obtain ⟨s, w2, hs, hl⟩ := itemsA (m := m) (xs := [⟨c, q'⟩, ⟨at5, q2⟩]) (by simp) (fun p hp => by
          simp at hp; rcases hp with rfl | rfl
          · exact ⟨⟨n0, n1⟩, q0'⟩
          · exact ⟨⟨a0, a1⟩, z0⟩)
        exact ⟨r6, s, by simp [h2, w1, catL, w2], hr6, hs, hl⟩
      · exact ⟨r5, _, if_neg (by simp [h2]), hr5, sideA_one ⟨n0, n1⟩ q0', by simp⟩
    rw [e6]
    simp only [M.ok_bind]
    obtain ⟨r7, tk, e7, hr7, ht, htl⟩ : ∃ (r7 : F2 Int Int) (tk : Side), (if (decide ((way : Int) = (3 : Int))) then ((f_take2 r6 m).call.bind2 fun (v24 : Int) (pool_here25 : (F2 Int Int)) => (f_amount2 pool_here25 ).call.bind2 fun (v26 : Rat) (pool_here27 : (F2 Int Int)) => (catL ([(⟨at5, q⟩ : (T2 Int Rat))] : (List (T2 Int Rat))) ([(⟨v24, v26⟩ : (T2 Int Rat))] : (List (T2 Int Rat)))).bind fun (xs28 : (List (T2 Int Rat))) => (itemsM xs28).bind fun (v29 : (List (T2 Int Rat))) => M.ok (pool_here27, v29) : M ((F2 Int Int) × (List (T2 Int Rat)))) else M.ok (r6, ([(⟨at5, q⟩ : (T2 Int Rat))] : (List (T2 Int Rat))))) = .ok (r7, tk) ∧ Pl r7 ∧ SideA m tk ∧ tk.length ≤ 2 := by
      by_cases h3 : way = 3
      · obtain ⟨j, r7, w0, hr7, j0, j1⟩ := take2_eq hr6 (n := m) m0 (by omega)
        obtain ⟨q2, r8, w1, hr8, z0⟩ := amount2A hr7
        obtain ⟨s, w2, hs, hl⟩ := itemsA (m := m) (xs := [⟨at5, q⟩, ⟨j, q2⟩]) (by simp) (fun p hp => by
          simp at hp; rcases hp with rfl | rfl
          · exact ⟨⟨a0, a1⟩, q0⟩
          · exact ⟨⟨j0, j1⟩, z0⟩)
        exact ⟨r8, s, by simp [h3, w0, w1, catL, w2], hr8, hs, hl⟩
      · exact ⟨r6, _, if_neg (by simp [h3]), hr6, sideA_one ⟨a0, a1⟩ q0, by simp⟩
    rw [e7]
    exact ⟨⟨tk, gv⟩, r7, rfl, hr7, ⟨ht, hg⟩, by dsimp only; omega, by dsimp only; omega⟩
theorem net2cA {s : Scr} {mp : Int} (h1 : 0 < mp ∧ mp ≤ 50) : ∃ n, f_net2c s 0 mp = .ok n ∧ NetOk n ∧ NetD n 2520 ∧ n.a ≤ mp ∧ n.b.length ≤ 10 := by
  obtain ⟨r, e1, hr⟩ := pool_eq (s := s) (k := 0) (by decide) (by decide)
  obtain ⟨x, r1, e2, hr1, x0, x1⟩ := take2_eq hr (n := mp) h1.1 (by omega)
  obtain ⟨y, r2, e3, hr2, y0, y1⟩ := take2_eq hr1 (n := 11) (by decide) (by decide)
  unfold f_net2c
  simp only [e1, e2, e3, M.call_ok, M.ok_bind, M.ok_bind2]
  rw [rgM_of y0 (by omega)]
  simp only [M.ok_bind]
  obtain ⟨ys, e4, hl, hp⟩ := mapM_all (g := fun (x11 : Int) => ((f_law_pool s (((0 : Int) + (1 : Int)) + x11)).call.bind fun (v12 : (F2 Int Int)) => (f_deed2 v12 ((1 : Int) + x)).call.bind2 fun (v13 : Deed) (_ : (F2 Int Int)) => M.ok v13 : M Deed)) (xs := rg 0 y)
    (P := fun _ (d : Deed) => (SideA (1 + x) d.a ∧ SideA (1 + x) d.b)) (by simp; omega) (fun k hk => by
      rw [get_rg]
      simp at hk
      obtain ⟨r3, e5, hr3⟩ := pool_eq (s := s) (k := 0 + 1 + (0 + (k : Int))) (by omega) (by omega)
      obtain ⟨d, r4, e6, hr4, hd, _⟩ := deed2A hr3 (m := 1 + x) (by omega) (by omega)
      exact ⟨d, by rw [e5]; simp only [M.call_ok, M.ok_bind, e6, M.ok_bind2], hd⟩)
  have hall : ∀ d ∈ ys, (SideA (1 + x) d.a ∧ SideA (1 + x) d.b) := fun d hd => by
    obtain ⟨k, hk, rfl⟩ := List.getElem_of_mem hd
    exact hp k hk
  have hlen : ys.length ≤ 10 := by rw [hl]; simp; omega
  have hd : ∀ z : Int, (SideA (1 + x) (dd ⟨1 + x, ys⟩ z).a ∧ SideA (1 + x) (dd ⟨1 + x, ys⟩ z).b) := fun z => by
    unfold dd
    rw [List.getD_eq_getElem?_getD]
    cases e : ys[z.toNat]? with
    | none => exact ⟨⟨SideOk.nil, fun p hp => by cases hp⟩, ⟨SideOk.nil, fun p hp => by cases hp⟩⟩
    | some d => exact hall d (List.mem_of_getElem? e)
  exact ⟨⟨1 + x, ys⟩, by rw [e4]; rfl, ⟨by dsimp only; omega, by dsimp only; omega, by dsimp only; omega, fun d hd => ⟨(hall d hd).1.ok, (hall d hd).2.ok⟩⟩, ⟨by decide, by decide, fun z p hp => ((hd z).1.am p hp).dn, fun z p hp => ((hd z).2.am p hp).dn⟩, by dsimp only; omega, hlen⟩
theorem stand2_eq {r : F2 Int Int} {m : Int} (hr : Pl r) (m0 : 0 ≤ m) (m1 : m ≤ 1000) : ∃ f r', f_stand2 r m = .ok (vec m f, r') ∧ Pl r' ∧ ∀ j, Sz (f j) 48 ∧ 0 ≤ f j := by
  obtain ⟨w, r1, e1, hr1, _, _⟩ := take2_eq hr (n := 4) (by decide) (by decide)
  unfold f_stand2
  simp only [e1, M.call_ok, M.ok_bind2]
  rw [rgM_of m0 (by omega)]
  simp only [M.ok_bind]
  obtain ⟨⟨r2, ps⟩, e2, hr2, hl, hp⟩ := forN_ix (f := fun (x7 : Int) (s6 : ((F2 Int Int) × (List Rat))) => (f_amount2 s6.1 ).call.bind2 fun (v8 : Rat) (pool_here9 : (F2 Int Int)) => (f_take2 pool_here9 (4 : Int)).call.bind2 fun (v10 : Int) (pool_here11 : (F2 Int Int)) => (ix ([(0 : Rat), v8] : (List Rat)) (boolI (decide (v10 < w)))).bind fun (v12 : Rat) => (appL s6.2 v12).bind fun (found13 : (List Rat)) => M.ok (pool_here11, found13))
    (fun k (s : (F2 Int Int) × (List Rat)) => Pl s.1 ∧ s.2.length = k ∧ ∀ q ∈ s.2, Sz q 48 ∧ 0 ≤ q) (xs := rg 0 m) (s := (r1, [])) ⟨hr1, rfl, by simp⟩ (fun k hk s hs => by
      obtain ⟨r, ps⟩ := s
      obtain ⟨hr, hl, hp⟩ := hs
      dsimp only at hr hl hp
      obtain ⟨q, r1, e1, hr1, q0, q1⟩ := amount2_eq hr
      obtain ⟨z, r2, e2, hr2, z0, z1⟩ := take2_eq hr1 (n := 4) (by decide) (by decide)
      obtain ⟨v, hv, e3⟩ := ix_mem (xs := [(0 : Rat), q]) (j := boolI (decide (z < w))) (by unfold boolI; split <;> decide) (by unfold boolI; simp; split <;> decide)
      have hv' : Sz v 48 ∧ 0 ≤ v := by
        simp at hv
        rcases hv with rfl | rfl
        · exact ⟨sz0 (by decide), by decide⟩
        · exact ⟨q1, by grind⟩
      simp at hk
      refine ⟨(r2, ps ++ [v]), ?_, hr2, by simp [hl], fun t ht => ?_⟩
      · simp [e1, e2, e3, appL_of (show ps.length < 100000 by omega)]
      · rcases List.mem_append.mp ht with h | h
        · exact hp t h
        · simp at h; subst h; exact hv')
  simp only [e2, M.ok_bind]
  dsimp only at hr2 hl hp
  obtain ⟨f, e3, hf⟩ := vec_all (P := fun q => Sz q 48 ∧ 0 ≤ q) (xs := ps) ⟨sz0 (by decide), by decide⟩ hp
  have hlm : (ps.length : Int) = m := by simp at hl; omega
  rw [hlm] at e3
  exact ⟨f, r2, by rw [← e3], hr2, hf⟩
end Fl
namespace Fl
open PySem
open Ty (enc)
end Fl
namespace Fl
open PySem PySem.Spec PyProof.Rows L2
end Fl
namespace Fl
open PySem
open Ty (enc)
end Fl
namespace Fl
open PySem PySem.Spec PyProof.Rows L2
end Fl
namespace Fl
open PySem
open Ty (enc)
end Fl
namespace Fl
end Fl
namespace Fl
open PySem
open Ty (enc)
end Fl
namespace Fl
open PySem PySem.Spec PyProof.Rows L2
open Ty (enc)
end Fl
namespace Fl
open PySem PySem.Spec PyProof.Rows L2
open Ty (enc)
end Fl
namespace Fl
open PySem PySem.Spec PyProof.Rows L2
open Ty (enc)
end Fl
namespace Fl
open PySem
open Ty (enc)
end Fl
namespace Fl
open PySem PySem.Spec PyProof.Rows L2 PySem.W
open Ty (enc)
end Fl
namespace Fl
open PySem
open Ty (enc)
section
variable {α : Type} [Ty α]
def An.tup (xs : List α) : An := ⟨.tup (xs.map enc), by show D.tup (shL (xs.map enc)) = _; rw [shLmap, List.map_map]; exact congrArg D.tup (List.map_congr_left fun a _ => Ty.can a), by simp [kindD]⟩
instance : Cst α An := ⟨An.of, fun _ => rfl⟩
end
end Fl
namespace Fl
open PySem PySem.Spec PyProof.Rows L2
open Ty (enc)
section
open Classical in
noncomputable def anD (d : D) : Option An := if h : sh d = d ∧ kindD d ≠ none then some ⟨d, h.1, h.2⟩ else none
noncomputable def anL : List D → Option (List An)
  | [] => some []
  | d :: ds => (anD d).bind fun a => (anL ds).map fun as => a :: as
/-- its items, a list's -/
noncomputable def An.lst (u : An) : M (List An) := match u.d with
  | .lst false ds => (match anL ds with
    | some as => .ok as
    | none => .no)
  | _ => .no
/-- its item -/
noncomputable def An.ix (u : An) (j : Int) : M An := match ((itD u.d).bind fun xs => L2.atI xs j).bind anD with
  | some a => .ok a
  | none => .no
def An.len (u : An) : M Int := match itD u.d with
  | some xs => .ok (xs.length : Int)
  | none => .no
end
end Fl
namespace Fl
open PySem PySem.Spec PyProof.Rows L2
open Ty (enc)
mutual
def toPyE : D → Option PyData
  | .tup ds => (toPyEs ds).map .tuple
  | .lst _ ds => (toPyEs ds).map .list
  | .frz ds => (toPyEs ds).map .list
  | .dct _ [] _ => some (.dict [])
  | .non => some .none
  | .bl b => some (.bool b)
  | .int i => some (.int i)
  | .str x => some (.str x)
  | _ => none
def toPyEs : List D → Option (List PyData)
  | [] => some []
  | d :: ds => (toPyE d).bind fun p => (toPyEs ds).map fun ps => p :: ps
end
end Fl
namespace Fl
open PySem
open Ty (enc)
section
variable {β : Type} {Γ : Ctx} {μ : Md} {Ψ : D → Md → Ctx → M β → Prop}
open Classical in
noncomputable def An.to (α : Type) [Ty α] (u : An) : M α := if h : ∃ a : α, enc a = u.d then .ok (Classical.choose h) else .no
end
end Fl
namespace Fl
open PySem PySem.Spec PyProof.Rows L2
open Ty (enc)
end Fl
namespace Fl
open PySem
open Ty (enc)
end Fl
namespace Fl
open PySem PySem.Spec PyProof.Rows L2 PySem.W
open Ty (enc)
end Fl
namespace Fl
open PySem PySem.Spec PyProof.Rows L2
open Ty (enc)
end Fl
namespace Fl
open PySem
open Ty (enc)
end Fl
namespace Fl
open PySem PySem.Spec PyProof.Rows L2 PySem.W
open Ty (enc)
end Fl
namespace Fl
open PySem
open Ty (enc)
end Fl
namespace Fl
open PySem PySem.Spec PyProof.Rows L2 PySem.W
open Ty (enc)
end Fl
namespace Fl
open PySem PySem.Spec PyProof.Rows L2 PySem.W
open Ty (enc)
end Fl
namespace Fl
open PySem PySem.Spec PyProof.Rows L2 PySem.W
open Ty (enc)
end Fl
namespace Fl
open PySem
open Ty (enc)
end Fl
namespace Fl
open PySem PySem.Spec PyProof.Rows L2
open Ty (enc)
def mtFit (x : Str) (n : Int) : Prop := 1 ≤ n ∧ n ≤ 1000 ∧ x.length ≤ 1000
instance : Decidable (mtFit x n) := by unfold mtFit; infer_instance
theorem mtFit.ok {x : Str} {n : Int} (h : mtFit x n) : MulOk x n := by
  obtain ⟨h1, h2, h3⟩ := h
  refine ⟨?_, fun _ _ => ?_, fun _ _ => ?_⟩
  · have a : ¬ n < -(2 ^ 63 : Int) := by omega
    have b : ¬ n ≥ 2 ^ 63 := by omega
    rw [decide_eq_false a, decide_eq_false b] <;> rfl
  · have a : (1000 : Int) ≤ (2 ^ 63 - 1) / n := by
      rw [Int.le_ediv_iff_mul_le (by omega)]
      omega
    omega
  · have : x.length * n.toNat ≤ 1000 * 1000 := Nat.mul_le_mul h3 (by omega)
    have q : ¬ x.length * n.toNat > sizeLine := by
      have : (1000 * 1000 : Nat) ≤ sizeLine := by decide
      omega
    exact decide_eq_false q
end Fl
namespace Fl
open PySem
open Ty (enc)
end Fl
namespace Fl
open PySem
open Ty (enc)
section
variable {α β : Type} [Ty α] [Ty β]
noncomputable instance (priority := low) anNrw : Nrw An α := ⟨An.to α, fun u c h => (by
  unfold An.to at h
  split at h
  · rename_i hx
    cases h
    exact Classical.choose_spec hx
  · cases h), fun u => (by
  unfold An.to
  split
  · exact .inl ⟨_, rfl⟩
  · exact .inr rfl)⟩
def anyL : U2 (List α) (List β) → List An
  | .a xs => xs.map An.of
  | .b xs => xs.map An.of
theorem anyL_enc (u : U2 (List α) (List β)) : enc (anyL u) = enc u := by
  cases u with
  | a xs =>
    show D.lst false ((xs.map An.of).map enc) = D.lst false (xs.map enc)
    rw [List.map_map]; rfl
  | b xs =>
    show D.lst false ((xs.map An.of).map enc) = D.lst false (xs.map enc)
    rw [List.map_map]; rfl
instance : Cst (U2 (List α) (List β)) (List An) := ⟨anyL, anyL_enc⟩
end
end Fl
namespace Fl
open PySem PySem.Spec PyProof.Rows L2
open Ty (enc)
mutual
/-- plain data of a depth, without dicts -/
def kk : D → Nat → Bool
  | .non, _ => true
  | .bl _, _ => true
  | .int i, _ => decide (i.natAbs < 2 ^ 1500)
  | .str x, _ => PyData.canLay0 (.str x) && lf (.str x) && decide (x.cps.size ≤ 100)
  | .tup ds, n + 1 => kkL ds n
  | .lst o ds, n + 1 => !o && decide (ds.length ≤ 1000) && kkL ds n
  | _, _ => false
def kkL : List D → Nat → Bool
  | [], _ => true
  | d :: ds, n => kk d n && kkL ds n
end
/-- repr has room -/
def PyO (d : D) (n b : Nat) : Prop := ∃ p, toPyE d = some p ∧ p.depth ≤ n ∧ p.showable = true ∧ p.leavesShort 600 = true ∧ p.bulk ≤ b
theorem PyO.more {d : D} {n b m c : Nat} (h : PyO d n b) (h1 : n ≤ m) (h2 : b ≤ c) : PyO d m c := by
  obtain ⟨p, q1, q2, q3, q4, q5⟩ := h
  exact ⟨p, q1, by omega, q3, q4, by omega⟩
theorem cut_drop {α : Type} {xs : List α} {k : Nat} : cut xs (some (k : Int)) none = xs.drop k := by
  have h0 : HT.sIx xs.length 0 (some (k : Int)) = min k xs.length := by
    have : ¬ (k : Int) < 0 := by omega
    simp [HT.sIx, this]
  have h1 : HT.sIx xs.length xs.length none = xs.length := rfl
  unfold cut
  rw [h0, h1, List.take_of_length_le (by rw [List.length_drop, Nat.min_def]; split <;> omega)]
  by_cases c : k ≤ xs.length
  · rw [Nat.min_eq_left c]
  · rw [Nat.min_eq_right (by omega), List.drop_of_length_le (Nat.le_refl _), List.drop_of_length_le (by omega)]
end Fl
namespace Fl
open PySem PySem.Spec PyProof.Rows L2
end Fl
namespace Fl
open PySem PySem.Spec PyProof.Rows L2
end Fl
namespace Fl
open PySem
open Ty (enc)
end Fl
namespace Fl
open PySem PySem.Spec PyProof.Rows L2
open Ty (enc)
end Fl
namespace Fl
open PySem PySem.Spec PyProof.Rows L2
section
variable {α γ δ : Type} [Ty α] [Ty γ] [Ty δ]
instance : SlT (T3 α γ δ) (T2 γ δ) (some 1) none := ⟨fun t => .ok ⟨t.b, t.c⟩, fun t s h => by cases h; exact ⟨[Ty.enc t.a, Ty.enc t.b, Ty.enc t.c], rfl, by simp [HT.sIx], rfl⟩, fun t => .inr ⟨_, rfl⟩⟩
end
end Fl
namespace Fl
open PySem PySem.Spec PyProof.Rows L2
/-- the name of a def, taken as a thing -/
def eFn (a : Addr) : Exp := fun env => .ok (.exo "def" [.int (a : Int)], env)
/-- a call of what a name holds, one of two defs -/
def eCallV (i : Nat) (a1 : Addr) (m1 : Fn) (a2 : Addr) (m2 : Fn) (ms : Arg) : Exp := fun env => match env[i]? with
  | some (.exo _ [.int a]) => if a = (a1 : Int) then eCall m1 ms env else if a = (a2 : Int) then eCall m2 ms env else .no
  | _ => .no
def tFn (a : Addr) : TE := fun _ H Q => Q (.ref a) H
def tCV (i : Nat) (a1 : Addr) (t1 : TE) (a2 : Addr) (t2 : TE) : TE := fun σ H Q => (σ[i]? = some (some (.ref a1)) ∧ t1 σ H Q) ∨ (σ[i]? = some (some (.ref a2)) ∧ t2 σ H Q)
section
variable {K : PySem.W.Frag} {W : Wh}
theorem ev_fn {a : Addr} : EvI K W (tFn a) (eFn a) := fun σ env F Hs H A r o Q k => k (.ref a) Hs H [] A (.exo (.inl rfl) .nil) r (by simpa using o) (by simpa using Go.refl)
theorem ev_callV {i : Nat} {a1 a2 : Addr} {m1 m2 : Fn} {ms : Arg} {t1 t2 : TE} (e1 : EvI K W t1 (eCall m1 ms)) (e2 : EvI K W t2 (eCall m2 ms)) : EvI K W (tCV i a1 t1 a2 t2) (eCallV i a1 m1 a2 m2 ms) := by
  intro σ env F Hs H A r o
  unfold eCallV
  split
  · rename_i c a hi
    obtain ⟨v, B, A', q1, q2, _, _⟩ := r.at hi (by simp)
    obtain ⟨b, rfl, q3, _⟩ := q2.exo_at
    have up : ∀ {t : TE} {R : Res (D × Env)}, (∀ Q, t σ H Q → tCV i a1 t1 a2 t2 σ H Q) → PostE K W t σ F Hs H A R → PostE K W (tCV i a1 t1 a2 t2) σ F Hs H A R := fun {t R} h z => by
      cases R with
      | no => trivial
      | ok p => exact fun Q k => h Q (z Q k)
      | ex x e => exact fun k Q => h Q (z k Q)
    split
    · rename_i h1
      have hb : b = a1 := Int.ofNat_inj.mp (q3.symm.trans h1)
      exact up (fun Q h => .inl ⟨by rw [q1, hb], h⟩) (e1 σ env F Hs H A r o)
    · split
      · rename_i h2
        have hb : b = a2 := Int.ofNat_inj.mp (q3.symm.trans h2)
        exact up (fun Q h => .inr ⟨by rw [q1, hb], h⟩) (e2 σ env F Hs H A r o)
      · trivial
  · trivial
end
section
variable {X : Cx} {W : Wh} {x y : Str} {p pos : Pos} {e : Expr} {es : List Expr} {ms : Arg}
theorem ie_fn {a : Addr} (hm : X.mg x = some (.ref a)) (hg : Gl X x := by rfl) (hdb : (x == ("__debug__" : Str)) = false := by decide) : IE X W (.Name x p) (eFn a) :=
  ⟨_, ⟨fun pins s σ H Q I h => ld_glob I hg hm ⟨.ref a, H, I, rfl, h⟩ hdb⟩, ev_fn⟩
theorem ie_callV {k1 k2 n1 n2 : Nat} {x1 x2 : Str} {f1 f2 : Fn} {a1 a2 : Addr} (i : Nat) (z1 : X.mg x1 = some (.ref a1)) (z2 : X.mg x2 = some (.ref a2)) (h1 : Has X.prog X.w X.K X.mg X.base k1 x1 n1 f1) (h2 : Has X.prog X.w X.K X.mg X.base k2 x2 n2 f2) (hr1 : Room k1 X.A) (hr2 : Room k2 X.A) (ha : IA X W (e :: es) ms)
    (hN : X.N[i]? = some y := by rfl) (hv : Vis X.env.scope y := by first | exact Or.inl rfl | exact Or.inr (Or.inl rfl) | exact Or.inr (Or.inr rfl)) (hd : (y == ("__debug__" : Str)) = false := by decide) (hcd : (y == ("__classdict__" : Str)) = false := by decide)
    (he : starEach (e :: es) X.env = (false, eval e X.env) :: starEach es X.env := by rfl) (hpl : (backTo pos (starEach es X.env)).any (·.1) = false := by rfl) : IE X W (.Call (.Name y p) (e :: es) [] pos) (eCallV i a1 f1 a2 f2 ms) := by
  obtain ⟨_, g1, g2⟩ := ha
  obtain ⟨b1, fd1, ps1, F1, hm1, hk1, hb1⟩ := h1.ex
  obtain ⟨b2, fd2, ps2, F2, hm2, hk2, hb2⟩ := h2.ex
  rw [z1] at hm1; cases hm1
  rw [z2] at hm2; cases hm2
  have one : ∀ {k : Nat} {f : Addr} {fd : FuncData} {ps : List Str} {sp : Sp} {ta : TA} (_ : FnOk X.prog X.w X.K X.mg X.base CX0 k f fd ps sp) (_ : Room k X.A) (_ : PySem.W.keepIn X.K (.ref f) = true) (_ : Binds X.K fd ps []) (_ : PA X (e :: es) ta) {pins : List (Addr × Obj)} {s : Shared} {σ : L2.St} {H : Hp} {Q : VK},
      Inv X pins σ H s → σ[i]? = some (some (.ref f)) → tCall sp [] E0 ta σ H Q → wpAny (model X.prog X.w) X.A (eval (.Call (.Name y p) (e :: es) [] pos) X.env) (EP X pins σ Q) X.xe s := by
    intro k f fd ps sp ta F hr hk hb hA pins s σ H Q I hs h
    refine wpAny_Call_Name_kw (thn ((pe_var (X := X) (pos := p) hN hv hd hcd).run pins s σ H (fun v H' => v = .ref f ∧ tCall sp [] E0 ta σ H' Q) I ⟨_, hs, rfl, h⟩) fun u s1 hu => ?_)
    obtain ⟨v, H1, I1, r1, rfl, h1⟩ := hu
    obtain rfl : u = Value.ref f := r1
    refine PySem.W.callWith_K (h₀ := X.base) I1.ok.mod.kin hk (thn (hA.run pos pins s1 σ H1 _ I1 h1) fun us s2 ⟨vs, H2, I2, r, q⟩ => ⟨I2.kIn, ?_⟩) he hpl
    exact run_fn F hr hb .nil pass0 I2 r q
  exact ⟨_, ⟨fun pins s σ H Q I h => h.elim (fun h => one F1 hr1 hk1 hb1 g1 I h.1 h.2) fun h => one F2 hr2 hk2 hb2 g1 I h.1 h.2⟩, ev_callV (ev_call h1.len g2) (ev_call h2.len g2)⟩
end
section
open Ty (enc)
variable {β : Type} {N : En β} {X : XP} {Γ : Ctx} {w : M β} {Ψ : D → Md → Ctx → M β → Prop} {ΨS : Ctx → M β → Prop}
/-- a name holds this def -/
def Ef (a : Addr) : D → Prop := fun d => d = .exo "def" [.int (a : Int)]
theorem ke_callV1 {i : Nat} {a1 a2 : Addr} {m1 m2 : Fn} {ms : Arg} (hi : Γ[i]? = some (Ef a1)) (h : KE X Γ (eCall m1 ms) w Ψ) : KE X Γ (eCallV i a1 m1 a2 m2 ms) w Ψ := fun env s hw => by
  obtain ⟨d, e1, rfl⟩ := s.at hi
  have : eCallV i a1 m1 a2 m2 ms env = eCall m1 ms env := by
    unfold eCallV
    rw [e1]; simp
  rw [this]; exact h env s hw
theorem ke_callV2 {i : Nat} {a1 a2 : Addr} {m1 m2 : Fn} {ms : Arg} (hi : Γ[i]? = some (Ef a2)) (h : KE X Γ (eCall m2 ms) w Ψ) (hne : a2 ≠ a1 := by decide) : KE X Γ (eCallV i a1 m1 a2 m2 ms) w Ψ := fun env s hw => by
  obtain ⟨d, e1, rfl⟩ := s.at hi
  have : eCallV i a1 m1 a2 m2 ms env = eCall m2 ms env := by
    unfold eCallV
    rw [e1]
    have : ¬ ((a2 : Int) = (a1 : Int)) := fun e => hne (Int.ofNat_inj.mp e)
    simp [this]
  rw [this]; exact h env s hw
abbrev itF (a1 a2 : Addr) : Itm := iL (eLst (aC (eFn a1) (aC (eFn a2) (aN))))
theorem itF_eq {a1 a2 : Addr} {env : Fl.Env} : itF a1 a2 env = .ok ([.exo "def" [.int (a1 : Int)], .exo "def" [.int (a2 : Int)]], env) := rfl
theorem forC_runF {α σ : Type} {E : α → D} {Δ : σ → Ctx} {g : α → σ → M (Ctl β σ)} {tg : Tgt} {body : Stm} (h : ∀ a s env, Sat (Δ s) env → ∃ e Γ2, tg (E a) env = some e ∧ Sat Γ2 e ∧ KS (enC Δ N) Γ2 body (g a s) (FinCt Δ)) :
    ∀ (xs : List α) (s : σ) (env : Fl.Env), Sat (Δ s) env → forC g xs s ≠ .no → (∃ s' e, forC g xs s = .ok (.nx s') ∧ forL tg body (xs.map E) env = .nx e ∧ Sat (Δ s') e) ∨ (∃ r d e, forC g xs s = .ok (.rt r) ∧ forL tg body (xs.map E) env = .rt d e ∧ N.rt (.ok r) d e) ∨
      ∃ c es e, forC g xs s = .ex c (shL es) ∧ forL tg body (xs.map E) env = .ex (.exo c es) e ∧ N.x e
  | [], s, env, hs, _ => .inl ⟨s, env, rfl, rfl, hs⟩
  | a :: xs, s, env, hs, hn => by
    obtain ⟨e, Γ2, q1, q2, q3⟩ := h a s env hs
    have hn' : forC g (a :: xs) s ≠ .no := hn
    unfold forC at hn' ⊢
    have hg : g a s ≠ .no := fun e => hn' (by rw [e]; rfl)
    have q4 := q3 e q2 hg
    rw [List.map_cons, forL_cons, q1]
    have ih := fun s' e' => forC_runF h xs s' e'
    dsimp only
    revert q4
    cases body e with
    | no => exact False.elim
    | nx e' =>
      rintro ⟨Γ', p1, s', p2, p3⟩
      rw [p2] at hn' ⊢
      exact ih s' e' (p3.sat p1) hn'
    | ct e' =>
      rintro ⟨s', p2, p3⟩
      rw [p2] at hn' ⊢
      exact ih s' e' p3 hn'
    | bk e' =>
      rintro ⟨s', p2, p3⟩
      rw [p2]
      exact .inl ⟨s', e', rfl, rfl, p3⟩
    | rt d' e' =>
      rintro ⟨r, p2, p3⟩
      rw [p2]
      exact .inr (.inl ⟨r, d', e', rfl, rfl, p3⟩)
    | ex x' e' =>
      rintro ⟨c, es, rfl, p2, p3⟩
      rw [p2]
      exact .inr (.inr ⟨c, es, e', rfl, rfl, p3⟩)
/-- for x in [f, g]: body -/
theorem ks_forF {i : Nat} {a1 a2 : Addr} {body : Stm} {Δ : Ctx} {g1 g2 : M (Ctl β Unit)} {k : M β} (hw : Wk Γ Δ) (h1 : KS (enC (fun _ : Unit => Δ) N) (Δ.set i (Ef a1)) body g1 (FinCt fun _ : Unit => Δ)) (h2 : KS (enC (fun _ : Unit => Δ) N) (Δ.set i (Ef a2)) body g2 (FinCt fun _ : Unit => Δ)) (hk : ΨS Δ k) :
    KS N Γ (sFor (itF a1 a2) (gN i) body) ((forC (fun (b : Bool) (_ : Unit) => if b then g1 else g2) [true, false] ()).bind fun c => c.go fun (_ : Unit) => k) ΨS := fun env sa hw' => by
  unfold sFor
  rw [itF_eq]
  rcases forC_runF (N := N) (E := fun b : Bool => if b then .exo "def" [.int (a1 : Int)] else .exo "def" [.int (a2 : Int)]) (Δ := fun _ : Unit => Δ) (g := fun (b : Bool) (_ : Unit) => if b then g1 else g2) (tg := gN i) (body := body) (fun b s env' hs => by
    cases b with
    | true => exact ⟨_, _, rfl, hs.set (P := Ef a1) rfl, h1⟩
    | false => exact ⟨_, _, rfl, hs.set (P := Ef a2) rfl, h2⟩) [true, false] () env (hw.sat sa) (fun e => hw' (by rw [e]; rfl)) with ⟨s', e', q1, q2, q3⟩ | ⟨r, d, e', q1, q2, q3⟩ | ⟨c, es, e', q1, q2, q3⟩
  · have q2' : forL (gN i) body [.exo "def" [.int (a1 : Int)], .exo "def" [.int (a2 : Int)]] env = .nx e' := q2
    simp only [q2']
    exact ⟨Δ, q3, by rw [q1]; exact hk⟩
  · have q2' : forL (gN i) body [.exo "def" [.int (a1 : Int)], .exo "def" [.int (a2 : Int)]] env = .rt d e' := q2
    simp only [q2']
    rw [q1]; exact q3
  · have q2' : forL (gN i) body [.exo "def" [.int (a1 : Int)], .exo "def" [.int (a2 : Int)]] env = .ex (.exo c es) e' := q2
    simp only [q2']
    exact ⟨c, es, rfl, by rw [q1]; rfl, q3⟩
/-- [x for x in [f, g] if test], when it is empty -/
theorem ke_lcF {i n : Nat} {a1 a2 : Addr} {tt : Tst} {Δ : Ctx} {g1 g2 : M Bool} {k : M β} (hn : Γ.length = n) (hw : Wk (Γ.set i Tp) Δ) (h1 : KB xF (Δ.set i (Ef a1)) tt g1 fun t Γ3 w3 => w3 = .ok t ∧ Wk (Γ3.set i Tp) Δ) (h2 : KB xF (Δ.set i (Ef a2)) tt g2 fun t Γ3 w3 => w3 = .ok t ∧ Wk (Γ3.set i Tp) Δ) (hi : Δ[i]? = some Tp) (hk : Ψ (enc ([] : List Unit)) .cl Δ k) :
    KE X Γ (eLc n (itF a1 a2) (gN i) tt (eV i) [i]) (g1.bind fun t1 => if t1 then .no else g2.bind fun t2 => if t2 then .no else k) Ψ := fun env s hw' => by
  have s0 : Sat Δ (env.set i .dead) := hw.sat (s.set trivial)
  have n1 : g1 ≠ .no := fun e => hw' (by rw [e]; rfl)
  have s1 : Sat (Δ.set i (Ef a1)) ((env.set i .dead).set i (.exo "def" [.int (a1 : Int)])) := s0.set rfl
  rcases h1 _ s1 n1 with ⟨b1, e1, Γ1, q1, q2, q3, q4⟩ | ⟨_, _, _, _, _, z⟩
  rotate_left
  · exact z.elim
  rw [q3] at hw' ⊢
  cases b1 with
  | true => exact absurd rfl hw'
  | false =>
    have n2 : g2 ≠ .no := fun e => hw' (by rw [e]; rfl)
    have t1 : Sat Δ (e1.set i .dead) := q4.sat (q2.set trivial)
    have s2 : Sat (Δ.set i (Ef a2)) ((e1.set i .dead).set i (.exo "def" [.int (a2 : Int)])) := t1.set rfl
    rcases h2 _ s2 n2 with ⟨b2, e2, Γ2, r1, r2, r3, r4⟩ | ⟨_, _, _, _, _, z⟩
    rotate_left
    · exact z.elim
    rw [r3] at hw' ⊢
    cases b2 with
    | true => exact absurd rfl hw'
    | false =>
      have t2 : Sat Δ (e2.set i .dead) := r4.sat (r2.set trivial)
      have el : env.length = n := by rw [s.len, hn]
      have et : lcL (gN i) tt (eV i) [i] [.exo "def" [.int (a1 : Int)], .exo "def" [.int (a2 : Int)]] (wipeD env [i]) = some ([], e2.set i .dead) := by
        have w1 : wipeD env [i] = env.set i .dead := rfl
        have w2 : wipeD e1 [i] = e1.set i .dead := rfl
        have w3 : wipeD e2 [i] = e2.set i .dead := rfl
        rw [w1]
        simp only [lcL, gN, q1, r1, Bool.false_eq_true, if_false, w2, w3]
      refine .inl ⟨.lst true [], backD env [i] (e2.set i .dead), enc ([] : List Unit), .cl, Δ, ?_, ⟨rfl, rfl⟩, ?_, hk⟩
      · unfold eLc
        rw [itF_eq]
        simp only [el, true_and]
        rw [if_pos (by simp), et]
      · unfold backD
        cases env[i]? with
        | none => exact t2
        | some d =>
          dsimp only
          split
          · exact t2
          · have := t2.set (i := i) (P := Tp) (d := d) trivial
            have eΔ : Δ.set i Tp = Δ := by
              obtain ⟨g1, g2⟩ := List.getElem?_eq_some_iff.mp hi
              rw [← g2]; exact List.set_getElem_self g1
            rw [eΔ] at this
            exact this
end
end Fl
set_option synthInstance.maxHeartbeats 400000
set_option synthInstance.maxSize 4000
namespace L_flowtokens_k24_whole_wet_whatever_the_am
open PySem PySem.Spec PyProof.Rows L2 Fl
open Ty (enc)
abbrev fnA_stays_dry : Addr := 56
abbrev fnA_stays_wet : Addr := 61
def topS (i : Nat) : Stmt := PySem.Challenge.pw_flowtokens_k24_whole_wet_whatever_the_am.main.body.getD i (.Pass ⟨0, 0, 0, 0⟩)
structure Bl (P : Program) (base : Heap) (mg : Str → Option Value) : Prop where
  tr : P.given.tree = none
  sr : base.NoSeer
  abs : mg "abs" = none
  all : mg "all" = none
  dict : mg "dict" = none
  enumerate : mg "enumerate" = none
  int : mg "int" = none
  len : mg "len" = none
  list : mg "list" = none
  max : mg "max" = none
  min : mg "min" = none
  range : mg "range" = none
  sorted : mg "sorted" = none
  zip : mg "zip" = none
structure Cs (K : PySem.W.Frag) (mg : Str → Option Value) : Prop where
  tt : True
  fa_stays_dry : mg "stays_dry" = some (.ref fnA_stays_dry)
  fa_stays_wet : mg "stays_wet" = some (.ref fnA_stays_wet)
/-- _law_order: (F2 Int Int), Int -/
noncomputable def b_law_order : Stm :=
  sSeq (sAsg (eLst (aN)) (gN 2))
  (sSeq (sFor (iR1 (aC (eV 1) (aN))) (gN 3)
  (sSeq (sAsg (eCallX m_take2 0 (aC (eBin addD (eV 3) (eC (.int 1))) (aN))) (gN 4))
  (sAsg (eBin addD (eBin addD (eSlV 2 oN (oS (eV 4))) (eLst (aC (eV 3) (aN)))) (eSlV 2 (oS (eV 4)) oN)) (gN 2))))
  (sRet (eM 2)))
noncomputable def m_law_order : Fn := fnM 2 5 true b_law_order
noncomputable def f_law_order (pool_here1 : (F2 Int Int)) (many2 : Int) : M ((List Int) × (F2 Int Int)) :=
  (rgM 0 many2).bind fun (xs3 : List Int) => (forN (fun (x5 : Int) (s4 : ((F2 Int Int) × (List Int))) => (f_take2 s4.1 (x5 + (1 : Int))).call.bind2 fun (v6 : Int) (pool_here7 : (F2 Int Int)) => (catL (cut s4.2 none (some v6)) ([x5] : (List Int))).bind fun (xs8 : (List Int)) => (catL xs8 (cut s4.2 (some v6) none)).bind fun (xs9 : (List Int)) => M.ok (pool_here7, xs9)) xs3 (pool_here1, ([] : (List Int)))).bind fun (s10 : ((F2 Int Int) × (List Int))) => M.ok (s10.2, s10.1)
theorem s_law_order (pool_here1 : (F2 Int Int)) (many2 : Int) : SFx m_law_order (enc pool_here1) [enc many2] (f_law_order pool_here1 many2) .cl := by
  unfold f_law_order m_law_order b_law_order
  exact sfx [Is (enc pool_here1) .cl, Is (enc many2) .any, Tp, Tp, Tp] (ks_seq (ks_asg (ke_lst (ka_nil (fl (a := ([] : (List Int))) .cl (kt_n 2 (ks_seq (ks_for (α := Int) (ki_R1 (ka_cons (ke_vF 1 rfl (ka_nil (⟨_, _, _, rfl, rfl, fun xs3 => ⟨_, (fun (s4 : ((F2 Int Int) × (List Int))) => [Is (enc (s4.1 : (F2 Int Int))) .cl, Is (enc (many2 : Int)) .any, Is (enc (s4.2 : (List Int))) .cl, Tp, Tp]), _, _, _, _, rfl, rfl, wk_refl, (fun x5 s4 => kt_n 3 (ks_seq (ks_asg (ke_callX 0 (at_ rfl trivial) (ka_cons (ke_bin (ke_vF 3 rfl (ke_c (a := ((1 : Int) : Int)) rfl (f2p o_add (ka_nil (fcx (s_take2 s4.1 (x5 + (1 : Int))) fun v6 pool_here7 => kt_n 4 (ks_asg (ke_bin (ke_bin (ke_slVF 2 (at_ rfl trivial) (ko_n (ko_s (ke_vF 4 rfl (⟨_, rfl, ⟨_, ⟨_, rfl⟩, ke_lst (ka_cons (ke_vF 3 rfl (ka_nil (fl (a := ([x5] : (List Int))) .cl (f2 o_addLF fun xs8 => ke_slVF 2 (at_ rfl trivial) (ko_s (ke_vF 4 rfl (⟨_, rfl, ko_n (⟨_, ⟨_, rfl⟩, f2 o_addLF fun xs9 => kt_n 2 (fj (wk_cons wk_i (wk_cons wk_i (wk_cons wk_i (wk_cons wk_t (wk_cons wk_t (wk_nil)))))))⟩)⟩))))))))⟩⟩))))))))))))))))))), fun s10 => ks_ret (ke_m 2 rfl (rtFx (ν := .cl) (r := (s10.2 : (List Int))) (fun _ h => h) rfl))⟩⟩)))))))))))))
/-- _law_moved: (T2 Int (List (T2 (List (T2 Int Rat)) (List (T2 Int Rat))))), (List Int), (List Int) -/
noncomputable def b_law_moved : Stm :=
  sSeq (sAsg (eBin mulD (eLst (aC (eC .non) (aN))) (eBV gLen 2)) (gN 3))
  (sSeq (sFor (iE (aC (eIxV 0 (eC (.int 1))) (aN))) (gT 2 (gsC (gN 4) (gsC (gT 2 (gsC (gN 5) (gsC (gN 6) (gsN)))) (gsN))))
  (sSeq (sAsg (eLc 11 (iL (eLst (aC (eV 5) (aC (eV 6) (aN))))) (gN 8) (bYes) (eG1 gSortT (eLc 11 (iL (eV 8)) (gT 2 (gsC (gN 9) (gsC (gN 10) (gsN)))) (bYes) (eTup (aC (eIxV 1 (eV 9)) (aC (eV 10) (aN)))) [9, 10])) [8]) (gN 7))
  (sSetIx 3 (eTup (aC (eIxV 7 (eC (.int 0))) (aC (eIxV 7 (eC (.int 1))) (aN)))) (eIxV 2 (eV 4)))))
  (sRet (eTup (aC (eIxV 0 (eC (.int 0))) (aC (eM 3) (aN))))))
noncomputable def m_law_moved : Fn := fnM 3 11 false b_law_moved
noncomputable def f_law_moved (net_here1 : (T2 Int (List (T2 (List (T2 Int Rat)) (List (T2 Int Rat)))))) (places2 : (List Int)) (deeds3 : (List Int)) : M (T2 Int (List (Option (T2 (List (T2 Int Rat)) (List (T2 Int Rat)))))) :=
  (repL ([()] : (List Unit)) (deeds3.length : Int)).bind fun (xs4 : (List Unit)) => (forN (fun (x6 : (T2 Int (T2 (List (T2 Int Rat)) (List (T2 Int Rat))))) (s5 : (List (Option (T2 (List (T2 Int Rat)) (List (T2 Int Rat)))))) => (mapM (fun (x8 : (List (T2 Int Rat))) => ((mapM (fun (x10 : (T2 Int Rat)) => ((ix places2 x10.a).bind fun (v11 : Int) => M.ok (⟨v11, x10.b⟩ : (T2 Int Rat)) : M (T2 Int Rat))) x8).bind fun (row13 : (List (T2 Int Rat))) => (sortPM row13).bind fun (v14 : (List (T2 Int Rat))) => M.ok v14 : M (List (T2 Int Rat)))) ([x6.b.a, x6.b.b] : (List (List (T2 Int Rat))))).bind fun (row16 : (List (List (T2 Int Rat)))) => (ix row16 (0 : Int)).bind fun (v17 : (List (T2 Int Rat))) => (ix row16 (1 : Int)).bind fun (v18 : (List (T2 Int Rat))) => (ix deeds3 x6.a).bind fun (v19 : Int) => (setIx s5 v19 (some ((⟨v17, v18⟩ : (T2 (List (T2 Int Rat)) (List (T2 Int Rat))))))).bind fun (rows20 : (List (Option (T2 (List (T2 Int Rat)) (List (T2 Int Rat)))))) => M.ok rows20) (enm net_here1.b) ((Cst.cst xs4 : (List (Option (T2 (List (T2 Int Rat)) (List (T2 Int Rat)))))))).bind fun (s21 : (List (Option (T2 (List (T2 Int Rat)) (List (T2 Int Rat)))))) => M.ok ((⟨net_here1.a, s21⟩ : (T2 Int (List (Option (T2 (List (T2 Int Rat)) (List (T2 Int Rat))))))))
theorem s_law_moved (net_here1 : (T2 Int (List (T2 (List (T2 Int Rat)) (List (T2 Int Rat)))))) (places2 : (List Int)) (deeds3 : (List Int)) : SFa m_law_moved [enc net_here1, enc places2, enc deeds3] (f_law_moved net_here1 places2 deeds3) .any := by
  unfold f_law_moved m_law_moved b_law_moved
  exact sfa [Is (enc net_here1) .any, Is (enc places2) .any, Is (enc deeds3) .any, Tp, Tp, Tp, Tp, Tp, Tp, Tp, Tp] (ks_seq (ks_asg (ke_gd (ke_bin (ke_lst (ka_cons (ke_c (a := (() : Unit)) rfl (ka_nil (fl (a := ([()] : (List Unit))) .cl (ke_bV (at_ rfl (fap o_len (f2 o_rep fun xs4 => co_cst (γ := (List (Option (T2 (List (T2 Int Rat)) (List (T2 Int Rat)))))) (kt_n 3 (ks_seq (ks_for (α := (T2 Int (T2 (List (T2 Int Rat)) (List (T2 Int Rat))))) (ki_E (ka_cons (ke_ixV 0 (at_ rfl trivial) (ke_c (a := ((1 : Int) : Int)) rfl (⟨_, rfl, at_ rfl (fxAp iv_2b rfl (ka_nil (⟨_, _, rfl, ⟨_, (fun (s5 : (List (Option (T2 (List (T2 Int Rat)) (List (T2 Int Rat)))))) => [Is (enc (net_here1 : (T2 Int (List (T2 (List (T2 Int Rat)) (List (T2 Int Rat))))))) .any, Is (enc (places2 : (List Int))) .any, Is (enc (deeds3 : (List Int))) .any, Is (enc (s5 : (List (Option (T2 (List (T2 Int Rat)) (List (T2 Int Rat))))))) .top, Tp, Tp, Tp, Tp, Tp, Tp, Tp]), _, _, _, _, rfl, rfl, (wk_cons wk_i (wk_cons wk_i (wk_cons wk_i (wk_cons wk_ct (wk_cons wk_t (wk_cons wk_t (wk_cons wk_t (wk_cons wk_t (wk_cons wk_t (wk_cons wk_t (wk_cons wk_t (wk_nil)))))))))))), (fun x6 s5 => kt_2 (kt_n 4 (kt_2 (kt_n 5 (kt_n 6 (ks_seq (ks_asg (ke_mapM (α := (List (T2 Int Rat))) (γ := (List (T2 Int Rat))) (ki_L (ke_lst (ka_cons (ke_va 5 rfl (ka_cons (ke_va 6 rfl (ka_nil (fl (a := ([x6.b.a, x6.b.b] : (List (List (T2 Int Rat))))) .top (⟨_, rfl, ⟨[Is (enc (net_here1 : (T2 Int (List (T2 (List (T2 Int Rat)) (List (T2 Int Rat))))))) .any, Is (enc (places2 : (List Int))) .any, Is (enc (deeds3 : (List Int))) .any, Is (enc (s5 : (List (Option (T2 (List (T2 Int Rat)) (List (T2 Int Rat))))))) .top, Is (enc (x6.a : Int)) .any, Is (enc (x6.b.a : (List (T2 Int Rat)))) .any, Is (enc (x6.b.b : (List (T2 Int Rat)))) .any, Tp, Tp, Tp, Tp], .cl, _, _, _, rfl, rfl, rfl, wk_refl, (vs_c rfl vs_nil), (fun x8 => kt_n 8 (ke_g1 (ke_mapM (α := (T2 Int Rat)) (γ := (T2 Int Rat)) (ki_L (ke_va 8 rfl (⟨_, rfl, ⟨[Is (enc (net_here1 : (T2 Int (List (T2 (List (T2 Int Rat)) (List (T2 Int Rat))))))) .any, Is (enc (places2 : (List Int))) .any, Is (enc (deeds3 : (List Int))) .any, Is (enc (s5 : (List (Option (T2 (List (T2 Int Rat)) (List (T2 Int Rat))))))) .top, Is (enc (x6.a : Int)) .any, Is (enc (x6.b.a : (List (T2 Int Rat)))) .any, Is (enc (x6.b.b : (List (T2 Int Rat)))) .any, Tp, Is (enc (x8 : (List (T2 Int Rat)))) .any, Tp, Tp], .cl, _, _, _, rfl, rfl, rfl, wk_refl, (vs_c rfl (vs_c rfl vs_nil)), (fun x10 => kt_2 (kt_n 9 (kt_n 10 (ke_tup (ka_cons (ke_ixV 1 (at_ rfl trivial) (ke_vF 9 rfl (⟨_, rfl, at_ rfl (fxF iv_list fun v11 => ka_cons (ke_vF 10 rfl (ka_nil (ft (a := (⟨v11, x10.b⟩ : (T2 Int Rat))) .cl (⟨_, wk_i, rfl, wk_refl⟩)))))⟩)))))))), fun row13 => fi oi_sortP fun v14 => ⟨_, wk_i, rfl, wk_refl⟩⟩⟩)))))), fun row16 => kt_n 7 (ks_setIx (α := (Option (T2 (List (T2 Int Rat)) (List (T2 Int Rat))))) 3 sm_top (ke_tup (ka_cons (ke_ixV 7 (at_ rfl trivial) (ke_c (a := ((0 : Int) : Int)) rfl (⟨_, rfl, at_ rfl (fxN iv_list fun v17 => ka_cons (ke_ixV 7 (at_ rfl trivial) (ke_c (a := ((1 : Int) : Int)) rfl (⟨_, rfl, at_ rfl (fxA iv_list rfl fun v18 => ka_nil (ft (a := (⟨v17, v18⟩ : (T2 (List (T2 Int Rat)) (List (T2 Int Rat))))) .any (⟨at_ rfl trivial, ke_ixV 2 (at_ rfl trivial) (ke_vF 4 rfl (⟨_, rfl, at_ rfl (fxF iv_list fun v19 => ⟨((some ((⟨v17, v18⟩ : (T2 (List (T2 Int Rat)) (List (T2 Int Rat)))))) : (Option (T2 (List (T2 Int Rat)) (List (T2 Int Rat))))), _, _, _, rfl, rfl, rfl, rfl, rfl, fun rows20 => fj (wk_cons wk_i (wk_cons wk_i (wk_cons wk_i (wk_cons wk_i (wk_cons wk_t (wk_cons wk_t (wk_cons wk_t (wk_cons wk_t (wk_cons wk_t (wk_cons wk_t (wk_cons wk_t (wk_nil))))))))))))⟩)⟩))⟩)))⟩))))⟩))))))⟩⟩))))))))))))))))), fun s21 => ks_ret (ke_tup (ka_cons (ke_ixV 0 (at_ rfl trivial) (ke_c (a := ((0 : Int) : Int)) rfl (⟨_, rfl, at_ rfl (fxFp iv_2a (ka_cons (ke_m 3 rfl (ka_nil (ft (a := (⟨net_here1.a, s21⟩ : (T2 Int (List (Option (T2 (List (T2 Int Rat)) (List (T2 Int Rat)))))))) .any (rtF (ν := .any) (r := ((⟨net_here1.a, s21⟩ : (T2 Int (List (Option (T2 (List (T2 Int Rat)) (List (T2 Int Rat))))))) : (T2 Int (List (Option (T2 (List (T2 Int Rat)) (List (T2 Int Rat)))))))) (fun _ h => h)))))))⟩)))))⟩⟩)))⟩)))))))))))))))))))))
/-- _law_in_order -/
noncomputable def b_law_in_order : Stm :=
  sSeq (sAsg (eCallX m_law_order 1 (aC (eIxV 0 (eC (.int 0))) (aN))) (gN 5))
  (sSeq (sAsg (eCallX m_law_order 1 (aC (eB gLen (aC (eIxV 0 (eC (.int 1))) (aN))) (aN))) (gN 6))
  (sSeq (sAsg (eCall m_law_moved (aC (eV 0) (aC (eV 5) (aC (eV 6) (aN))))) (gN 7))
  (sSeq (sAsg (eBin mulD (eLst (aC (eC .non) (aN))) (eIxV 0 (eC (.int 0)))) (gN 8))
  (sSeq (sFor (iR1 (aC (eIxV 0 (eC (.int 0))) (aN))) (gN 9)
  (sSetIx 8 (eIxV 2 (eV 9)) (eIxV 5 (eV 9))))
  (sSeq (sAsg (eTup (aC (eG1 gSort (eLc 15 (iL (eIxV 4 (eC (.int 0)))) (gN 9) (bYes) (eIxV 5 (eV 9)) [9])) (aC (eG1 gSort (eLc 15 (iL (eIxV 4 (eC (.int 1)))) (gN 14) (bYes) (eIxV 6 (eV 14)) [14])) (aN)))) (gN 10))
  (sSeq (sIf (bOf (eBinV fNe (eCall m_can_be (aC (eV 7) (aC (eV 8) (aC (eG1 gSort (eLc 15 (iL (eV 3)) (gN 14) (bYes) (eIxV 6 (eV 14)) [14])) (aN))))) 10)) (sRet (eC (.bl false))) (sPass))
  (sSeq (sAsg (eLc 15 (iR1 (aC (eIxV 0 (eC (.int 0))) (aN))) (gN 9) (bOf (eBin fEq (eIx (eIxV 2 (eV 9)) (eC (.int 0))) (eC (.int 0)))) (eV 9) [9]) (gN 11))
  (sSeq (sAsg (eG1 gSort (eLc 15 (iL (eV 11)) (gN 9) (bYes) (eIxV 5 (eV 9)) [9])) (gN 12))
  (sSeq (sFor (iL (eLst (aC (eFn fnA_stays_dry) (aC (eFn fnA_stays_wet) (aN))))) (gN 13)
  (sIf (bOf (eBin fNe (eCallV 13 fnA_stays_dry m_stays_dry fnA_stays_wet m_stays_wet (aC (eV 7) (aC (eV 12) (aN)))) (eG1 gSort (eLc 15 (iL (eCallV 13 fnA_stays_dry m_stays_dry fnA_stays_wet m_stays_wet (aC (eV 0) (aC (eV 11) (aN))))) (gN 9) (bYes) (eIxV 5 (eV 9)) [9])))) (sRet (eC (.bl false))) (sPass)))
  (sRet (eC (.bl true))))))))))))
noncomputable def m_law_in_order : Fn := fnJ 1 5 15 b_law_in_order
noncomputable def f_law_in_order (pool_here2 : (F2 Int Int)) (net_here1 : (T2 Int (List (T2 (List (T2 Int Rat)) (List (T2 Int Rat)))))) (stand_here3 : (List Rat)) (deeds4 : (List Int)) (told5 : (T2 (List Int) (List Int))) : M (Bool × (F2 Int Int)) :=
  (f_law_order pool_here2 net_here1.a).call.bind2 fun (v6 : (List Int)) (pool_here7 : (F2 Int Int)) => (f_law_order pool_here7 (net_here1.b.length : Int)).call.bind2 fun (v8 : (List Int)) (pool_here9 : (F2 Int Int)) => (f_law_moved net_here1 v6 v8).call.bind fun (v10 : (T2 Int (List (Option (T2 (List (T2 Int Rat)) (List (T2 Int Rat))))))) => (Nrw.nrw (γ := (T2 Int (List (T2 (List (T2 Int Rat)) (List (T2 Int Rat)))))) v10).bind fun (moved_here11 : (T2 Int (List (T2 (List (T2 Int Rat)) (List (T2 Int Rat)))))) => (repL ([()] : (List Unit)) net_here1.a).bind fun (xs12 : (List Unit)) => (rgM 0 net_here1.a).bind fun (xs13 : List Int) => (forN (fun (x15 : Int) (s14 : (List (Option Rat))) => (ix stand_here3 x15).bind fun (v16 : Rat) => (ix v6 x15).bind fun (v17 : Int) => (setIx s14 v17 (some v16)).bind fun (held18 : (List (Option Rat))) => M.ok held18) xs13 ((Cst.cst xs12 : (List (Option Rat))))).bind fun (s19 : (List (Option Rat))) => (Nrw.nrw (γ := (List Rat)) s19).bind fun (held20 : (List Rat)) => (mapM (fun (x22 : Int) => ((ix v6 x22).bind fun (v23 : Int) => M.ok v23 : M Int)) told5.a).bind fun (row25 : (List Int)) => (mapM (fun (x27 : Int) => ((ix v8 x27).bind fun (v28 : Int) => M.ok v28 : M Int)) told5.b).bind fun (row30 : (List Int)) => (mapM (fun (x32 : Int) => ((ix v8 x32).bind fun (v33 : Int) => M.ok v33 : M Int)) deeds4).bind fun (row35 : (List Int)) => (f_can_be moved_here11 held20 row35.mergeSort).call.bind fun (v36 : (T2 (List Int) (List Int))) => (if (!(decide ((v36 : (T2 (List Int) (List Int))) = (⟨row25.mergeSort, row30.mergeSort⟩ : (T2 (List Int) (List Int)))))) then M.ok (false, pool_here9) else (rgM 0 net_here1.a).bind fun (xs37 : List Int) => (fltM (fun (x39 : Int) => ((ix stand_here3 x39).bind fun (v40 : Rat) => (if (decide ((v40.num : Int) = (0 : Int))) then M.ok (some x39) else M.ok none) : M (Option Int))) xs37).bind fun (row42 : (List Int)) => (mapM (fun (x44 : Int) => ((ix v6 x44).bind fun (v45 : Int) => M.ok v45 : M Int)) row42).bind fun (row47 : (List Int)) => (forC (ρ := (Bool × (F2 Int Int))) (fun (b : Bool) (_ : Unit) => if b then ((f_stays_dry moved_here11 row47.mergeSort).call.bind fun (v48 : (List Int)) => (f_stays_dry net_here1 row42).call.bind fun (v49 : (List Int)) => (mapM (fun (x51 : Int) => ((ix v6 x51).bind fun (v52 : Int) => M.ok v52 : M Int)) v49).bind fun (row54 : (List Int)) => (if (!(decide ((v48 : (List Int)) = row54.mergeSort))) then M.ok (Ctl.rt (false, pool_here9)) else M.ok (Ctl.nx ())) : M (Ctl (Bool × (F2 Int Int)) Unit)) else ((f_stays_wet moved_here11 row47.mergeSort).call.bind fun (v55 : (List Int)) => (f_stays_wet net_here1 row42).call.bind fun (v56 : (List Int)) => (mapM (fun (x58 : Int) => ((ix v6 x58).bind fun (v59 : Int) => M.ok v59 : M Int)) v56).bind fun (row61 : (List Int)) => (if (!(decide ((v55 : (List Int)) = row61.mergeSort))) then M.ok (Ctl.rt (false, pool_here9)) else M.ok (Ctl.nx ())) : M (Ctl (Bool × (F2 Int Int)) Unit))) [true, false] ()).bind fun c => c.go fun (_ : Unit) => M.ok (true, pool_here9))
theorem s_law_in_order (pool_here2 : (F2 Int Int)) (net_here1 : (T2 Int (List (T2 (List (T2 Int Rat)) (List (T2 Int Rat)))))) (stand_here3 : (List Rat)) (deeds4 : (List Int)) (told5 : (T2 (List Int) (List Int))) : SFx m_law_in_order (enc pool_here2) [enc net_here1, enc stand_here3, enc deeds4, enc told5] (f_law_in_order pool_here2 net_here1 stand_here3 deeds4 told5) .cl := by
  unfold f_law_in_order m_law_in_order b_law_in_order
  exact sfxJ [Is (enc net_here1) .any, Is (enc pool_here2) .cl, Is (enc stand_here3) .any, Is (enc deeds4) .any, Is (enc told5) .any, Tp, Tp, Tp, Tp, Tp, Tp, Tp, Tp, Tp, Tp] (ks_seq (ks_asg (ke_callX 1 (at_ rfl trivial) (ka_cons (ke_ixV 0 (at_ rfl trivial) (ke_c (a := ((0 : Int) : Int)) rfl (⟨_, rfl, at_ rfl (fxFp iv_2a (ka_nil (fcx (s_law_order pool_here2 net_here1.a) fun v6 pool_here7 => kt_n 5 (ks_seq (ks_asg (ke_callX 1 (at_ rfl trivial) (ka_cons (ke_b (ka_cons (ke_ixV 0 (at_ rfl trivial) (ke_c (a := ((1 : Int) : Int)) rfl (⟨_, rfl, at_ rfl (fxAp iv_2b rfl (ka_nil (fap o_len (ka_nil (fcx (s_law_order pool_here7 (net_here1.b.length : Int)) fun v8 pool_here9 => kt_n 6 (ks_seq (ks_asg (ke_call (ka_cons (ke_va 0 rfl (ka_cons (ke_v 5 rfl (ka_cons (ke_v 6 rfl (ka_nil (fc (s_law_moved net_here1 v6 v8) fun v10 => kt_n 7 (ks_nw 7 rfl fun moved_here11 => ks_seq (ks_asg (ke_gd (ke_bin (ke_lst (ka_cons (ke_c (a := (() : Unit)) rfl (ka_nil (fl (a := ([()] : (List Unit))) .cl (ke_ixV 0 (at_ rfl trivial) (ke_c (a := ((0 : Int) : Int)) rfl (⟨_, rfl, at_ rfl (fxFp iv_2a (f2 o_rep fun xs12 => co_cst (γ := (List (Option Rat))) (kt_n 8 (ks_seq (ks_for (α := Int) (ki_R1 (ka_cons (ke_ixV 0 (at_ rfl trivial) (ke_c (a := ((0 : Int) : Int)) rfl (⟨_, rfl, at_ rfl (fxFp iv_2a (ka_nil (⟨_, _, _, rfl, rfl, fun xs13 => ⟨_, (fun (s14 : (List (Option Rat))) => [Is (enc (net_here1 : (T2 Int (List (T2 (List (T2 Int Rat)) (List (T2 Int Rat))))))) .any, Is (enc (pool_here9 : (F2 Int Int))) .cl, Is (enc (stand_here3 : (List Rat))) .any, Is (enc (deeds4 : (List Int))) .any, Is (enc (told5 : (T2 (List Int) (List Int)))) .any, Is (enc (v6 : (List Int))) .any, Is (enc (v8 : (List Int))) .any, Is (enc (moved_here11 : (T2 Int (List (T2 (List (T2 Int Rat)) (List (T2 Int Rat))))))) .any, Is (enc (s14 : (List (Option Rat)))) .cl, Tp, Tp, Tp, Tp, Tp, Tp]), _, _, _, _, rfl, rfl, wk_refl, (fun x15 s14 => kt_n 9 (ks_setIx (α := (Option Rat)) 8 sm_flat (ke_ixV 2 (at_ rfl trivial) (ke_vF 9 rfl (⟨_, rfl, at_ rfl (fxF iv_list fun v16 => ⟨at_ rfl trivial, ke_ixV 5 (at_ rfl trivial) (ke_vF 9 rfl (⟨_, rfl, at_ rfl (fxF iv_list fun v17 => ⟨((some v16) : (Option Rat)), _, _, _, rfl, rfl, rfl, rfl, rfl, fun held18 => fj (wk_cons wk_i (wk_cons wk_i (wk_cons wk_i (wk_cons wk_i (wk_cons wk_i (wk_cons wk_i (wk_cons wk_i (wk_cons wk_i (wk_cons wk_i (wk_cons wk_t (wk_cons wk_t (wk_cons wk_t (wk_cons wk_t (wk_cons wk_t (wk_cons wk_t (wk_nil))))))))))))))))⟩)⟩))⟩)⟩))))), fun s19 => ks_nw 8 rfl fun held20 => ks_seq (ks_asg (ke_tup (ka_cons (ke_g1 (ke_mapM (α := Int) (γ := Int) (ki_L (ke_ixV 4 (at_ rfl trivial) (ke_c (a := ((0 : Int) : Int)) rfl (⟨_, rfl, at_ rfl (fxAp iv_2a rfl (⟨_, rfl, ⟨[Is (enc (net_here1 : (T2 Int (List (T2 (List (T2 Int Rat)) (List (T2 Int Rat))))))) .any, Is (enc (pool_here9 : (F2 Int Int))) .cl, Is (enc (stand_here3 : (List Rat))) .any, Is (enc (deeds4 : (List Int))) .any, Is (enc (told5 : (T2 (List Int) (List Int)))) .any, Is (enc (v6 : (List Int))) .any, Is (enc (v8 : (List Int))) .any, Is (enc (moved_here11 : (T2 Int (List (T2 (List (T2 Int Rat)) (List (T2 Int Rat))))))) .any, Is (enc (held20 : (List Rat))) .cl, Tp, Tp, Tp, Tp, Tp, Tp], .cl, _, _, _, rfl, rfl, rfl, wk_refl, (vs_c rfl vs_nil), (fun x22 => kt_n 9 (ke_ixV 5 (at_ rfl trivial) (ke_vF 9 rfl (⟨_, rfl, at_ rfl (fxF iv_list fun v23 => ⟨_, wk_i, rfl, wk_refl⟩)⟩)))), fun row25 => fip oi_sort (ka_cons (ke_g1 (ke_mapM (α := Int) (γ := Int) (ki_L (ke_ixV 4 (at_ rfl trivial) (ke_c (a := ((1 : Int) : Int)) rfl (⟨_, rfl, at_ rfl (fxAp iv_2b rfl (⟨_, rfl, ⟨[Is (enc (net_here1 : (T2 Int (List (T2 (List (T2 Int Rat)) (List (T2 Int Rat))))))) .any, Is (enc (pool_here9 : (F2 Int Int))) .cl, Is (enc (stand_here3 : (List Rat))) .any, Is (enc (deeds4 : (List Int))) .any, Is (enc (told5 : (T2 (List Int) (List Int)))) .any, Is (enc (v6 : (List Int))) .any, Is (enc (v8 : (List Int))) .any, Is (enc (moved_here11 : (T2 Int (List (T2 (List (T2 Int Rat)) (List (T2 Int Rat))))))) .any, Is (enc (held20 : (List Rat))) .cl, Tp, Tp, Tp, Tp, Tp, Tp], .cl, _, _, _, rfl, rfl, rfl, wk_refl, (vs_c rfl vs_nil), (fun x27 => kt_n 14 (ke_ixV 6 (at_ rfl trivial) (ke_vF 14 rfl (⟨_, rfl, at_ rfl (fxF iv_list fun v28 => ⟨_, wk_i, rfl, wk_refl⟩)⟩)))), fun row30 => fip oi_sort (ka_nil (ft (a := (⟨row25.mergeSort, row30.mergeSort⟩ : (T2 (List Int) (List Int)))) .cl (kt_n 10 (ks_seq (ks_if (kb_of (ke_binV (ke_call (ka_cons (ke_va 7 rfl (ka_cons (ke_v 8 rfl (ka_cons (ke_g1 (ke_mapM (α := Int) (γ := Int) (ki_L (ke_va 3 rfl (⟨_, rfl, ⟨[Is (enc (net_here1 : (T2 Int (List (T2 (List (T2 Int Rat)) (List (T2 Int Rat))))))) .any, Is (enc (pool_here9 : (F2 Int Int))) .cl, Is (enc (stand_here3 : (List Rat))) .any, Is (enc (deeds4 : (List Int))) .any, Is (enc (told5 : (T2 (List Int) (List Int)))) .any, Is (enc (v6 : (List Int))) .any, Is (enc (v8 : (List Int))) .any, Is (enc (moved_here11 : (T2 Int (List (T2 (List (T2 Int Rat)) (List (T2 Int Rat))))))) .any, Is (enc (held20 : (List Rat))) .any, Tp, Is (enc ((⟨row25.mergeSort, row30.mergeSort⟩ : (T2 (List Int) (List Int))) : (T2 (List Int) (List Int)))) .cl, Tp, Tp, Tp, Tp], .cl, _, _, _, rfl, rfl, rfl, wk_refl, (vs_c rfl vs_nil), (fun x32 => kt_n 14 (ke_ixV 6 (at_ rfl trivial) (ke_vF 14 rfl (⟨_, rfl, at_ rfl (fxF iv_list fun v33 => ⟨_, wk_i, rfl, wk_refl⟩)⟩)))), fun row35 => fip oi_sort (ka_nil (fc (s_can_be moved_here11 held20 row35.mergeSort) fun v36 => at_ rfl (f2p (o_ne (a := (v36 : (T2 (List Int) (List Int)))) (b := ((⟨row25.mergeSort, row30.mergeSort⟩ : (T2 (List Int) (List Int))) : (T2 (List Int) (List Int))))) (⟨_, rfl, ⟨_, _, _, rfl, rfl, (fun _ => ks_ret (ke_c (a := (false : Bool)) rfl (rtFj (q := 1) (ν := .cl) (r := (false : Bool)) (fun _ h => h) rfl))), (fun _ => ks_pass (ks_seq (ks_asg (ke_fltM (α := Int) (γ := Int) (ki_R1 (ka_cons (ke_ixV 0 (at_ rfl trivial) (ke_c (a := ((0 : Int) : Int)) rfl (⟨_, rfl, at_ rfl (fxFp iv_2a (ka_nil (⟨_, _, _, rfl, rfl, fun xs37 => ⟨[Is (enc (net_here1 : (T2 Int (List (T2 (List (T2 Int Rat)) (List (T2 Int Rat))))))) .any, Is (enc (pool_here9 : (F2 Int Int))) .cl, Is (enc (stand_here3 : (List Rat))) .any, Is (enc (deeds4 : (List Int))) .any, Is (enc (told5 : (T2 (List Int) (List Int)))) .any, Is (enc (v6 : (List Int))) .any, Is (enc (v8 : (List Int))) .any, Is (enc (moved_here11 : (T2 Int (List (T2 (List (T2 Int Rat)) (List (T2 Int Rat))))))) .any, Is (enc (held20 : (List Rat))) .any, Tp, Is (enc ((⟨row25.mergeSort, row30.mergeSort⟩ : (T2 (List Int) (List Int))) : (T2 (List Int) (List Int)))) .cl, Tp, Tp, Tp, Tp], .cl, _, _, _, rfl, rfl, rfl, wk_refl, (vs_c rfl vs_nil), (fun x39 => kt_n 9 (kb_of (ke_bin (ke_ix (ke_ixV 2 (at_ rfl trivial) (ke_vF 9 rfl (⟨_, rfl, at_ rfl (fxF iv_list fun v40 => ke_c (a := ((0 : Int) : Int)) rfl (⟨_, rfl, feFp iv_qa (ke_c (a := ((0 : Int) : Int)) rfl (f2p (o_eq (a := (v40.num : Int)) (b := ((0 : Int) : Int))) (⟨_, rfl, twM (⟨rfl, wk_refl⟩) (ke_vF 9 rfl (⟨_, wk_i, rfl, wk_refl⟩))⟩)))⟩))⟩))))))), fun row42 => kt_n 11 (ks_seq (ks_asg (ke_g1 (ke_mapM (α := Int) (γ := Int) (ki_L (ke_v 11 rfl (⟨_, rfl, ⟨[Is (enc (net_here1 : (T2 Int (List (T2 (List (T2 Int Rat)) (List (T2 Int Rat))))))) .any, Is (enc (pool_here9 : (F2 Int Int))) .cl, Is (enc (stand_here3 : (List Rat))) .any, Is (enc (deeds4 : (List Int))) .any, Is (enc (told5 : (T2 (List Int) (List Int)))) .any, Is (enc (v6 : (List Int))) .any, Is (enc (v8 : (List Int))) .any, Is (enc (moved_here11 : (T2 Int (List (T2 (List (T2 Int Rat)) (List (T2 Int Rat))))))) .any, Is (enc (held20 : (List Rat))) .any, Tp, Is (enc ((⟨row25.mergeSort, row30.mergeSort⟩ : (T2 (List Int) (List Int))) : (T2 (List Int) (List Int)))) .cl, Is (enc (row42 : (List Int))) .any, Tp, Tp, Tp], .cl, _, _, _, rfl, rfl, rfl, wk_refl, (vs_c rfl vs_nil), (fun x44 => kt_n 9 (ke_ixV 5 (at_ rfl trivial) (ke_vF 9 rfl (⟨_, rfl, at_ rfl (fxF iv_list fun v45 => ⟨_, wk_i, rfl, wk_refl⟩)⟩)))), fun row47 => fip oi_sort (kt_n 12 (ks_seq (ks_forF (Δ := [Is (enc (net_here1 : (T2 Int (List (T2 (List (T2 Int Rat)) (List (T2 Int Rat))))))) .any, Is (enc (pool_here9 : (F2 Int Int))) .cl, Is (enc (stand_here3 : (List Rat))) .any, Is (enc (deeds4 : (List Int))) .any, Is (enc (told5 : (T2 (List Int) (List Int)))) .any, Is (enc (v6 : (List Int))) .any, Is (enc (v8 : (List Int))) .any, Is (enc (moved_here11 : (T2 Int (List (T2 (List (T2 Int Rat)) (List (T2 Int Rat))))))) .any, Is (enc (held20 : (List Rat))) .any, Tp, Is (enc ((⟨row25.mergeSort, row30.mergeSort⟩ : (T2 (List Int) (List Int))) : (T2 (List Int) (List Int)))) .cl, Is (enc (row42 : (List Int))) .any, Is (enc (row47.mergeSort : (List Int))) .any, Tp, Tp]) (wk_cons wk_i (wk_cons wk_i (wk_cons wk_i (wk_cons wk_i (wk_cons wk_i (wk_cons wk_i (wk_cons wk_i (wk_cons wk_i (wk_cons wk_i (wk_cons wk_t (wk_cons wk_i (wk_cons wk_i (wk_cons wk_a (wk_cons wk_t (wk_cons wk_t (wk_nil)))))))))))))))) (ks_if (kb_of (ke_bin (ke_callV1 rfl (ke_call (ka_cons (ke_va 7 rfl (ka_cons (ke_va 12 rfl (ka_nil (fc (s_stays_dry moved_here11 row47.mergeSort) fun v48 => ke_g1 (ke_mapM (α := Int) (γ := Int) (ki_L (ke_callV1 rfl (ke_call (ka_cons (ke_va 0 rfl (ka_cons (ke_va 11 rfl (ka_nil (fc (s_stays_dry net_here1 row42) fun v49 => ⟨_, rfl, ⟨[Is (enc (net_here1 : (T2 Int (List (T2 (List (T2 Int Rat)) (List (T2 Int Rat))))))) .any, Is (enc (pool_here9 : (F2 Int Int))) .cl, Is (enc (stand_here3 : (List Rat))) .any, Is (enc (deeds4 : (List Int))) .any, Is (enc (told5 : (T2 (List Int) (List Int)))) .any, Is (enc (v6 : (List Int))) .any, Is (enc (v8 : (List Int))) .any, Is (enc (moved_here11 : (T2 Int (List (T2 (List (T2 Int Rat)) (List (T2 Int Rat))))))) .any, Is (enc (held20 : (List Rat))) .any, Tp, Is (enc ((⟨row25.mergeSort, row30.mergeSort⟩ : (T2 (List Int) (List Int))) : (T2 (List Int) (List Int)))) .cl, Is (enc (row42 : (List Int))) .any, Is (enc (row47.mergeSort : (List Int))) .any, Ef fnA_stays_dry, Tp], .cl, _, _, _, rfl, rfl, rfl, wk_refl, (vs_c rfl vs_nil), (fun x51 => kt_n 9 (ke_ixV 5 (at_ rfl trivial) (ke_vF 9 rfl (⟨_, rfl, at_ rfl (fxF iv_list fun v52 => ⟨_, wk_i, rfl, wk_refl⟩)⟩)))), fun row54 => fip oi_sort (f2p (o_ne (a := (v48 : (List Int))) (b := (row54.mergeSort : (List Int)))) (⟨_, rfl, ⟨_, _, _, rfl, rfl, (fun _ => ks_ret (ke_c (a := (false : Bool)) rfl (rtC (rtFj (q := 1) (ν := .cl) (r := (false : Bool)) (fun _ h => h) rfl)))), (fun _ => ks_pass (fct (wk_cons wk_i (wk_cons wk_i (wk_cons wk_i (wk_cons wk_i (wk_cons wk_i (wk_cons wk_i (wk_cons wk_i (wk_cons wk_i (wk_cons wk_i (wk_cons wk_t (wk_cons wk_i (wk_cons wk_i (wk_cons wk_i (wk_cons wk_t (wk_cons wk_t (wk_nil))))))))))))))))))⟩⟩))⟩⟩))))))))))))))))))))) (ks_if (kb_of (ke_bin (ke_callV2 rfl (ke_call (ka_cons (ke_va 7 rfl (ka_cons (ke_va 12 rfl (ka_nil (fc (s_stays_wet moved_here11 row47.mergeSort) fun v55 => ke_g1 (ke_mapM (α := Int) (γ := Int) (ki_L (ke_callV2 rfl (ke_call (ka_cons (ke_va 0 rfl (ka_cons (ke_va 11 rfl (ka_nil (fc (s_stays_wet net_here1 row42) fun v56 => ⟨_, rfl, ⟨[Is (enc (net_here1 : (T2 Int (List (T2 (List (T2 Int Rat)) (List (T2 Int Rat))))))) .any, Is (enc (pool_here9 : (F2 Int Int))) .cl, Is (enc (stand_here3 : (List Rat))) .any, Is (enc (deeds4 : (List Int))) .any, Is (enc (told5 : (T2 (List Int) (List Int)))) .any, Is (enc (v6 : (List Int))) .any, Is (enc (v8 : (List Int))) .any, Is (enc (moved_here11 : (T2 Int (List (T2 (List (T2 Int Rat)) (List (T2 Int Rat))))))) .any, Is (enc (held20 : (List Rat))) .any, Tp, Is (enc ((⟨row25.mergeSort, row30.mergeSort⟩ : (T2 (List Int) (List Int))) : (T2 (List Int) (List Int)))) .cl, Is (enc (row42 : (List Int))) .any, Is (enc (row47.mergeSort : (List Int))) .any, Ef fnA_stays_wet, Tp], .cl, _, _, _, rfl, rfl, rfl, wk_refl, (vs_c rfl vs_nil), (fun x58 => kt_n 9 (ke_ixV 5 (at_ rfl trivial) (ke_vF 9 rfl (⟨_, rfl, at_ rfl (fxF iv_list fun v59 => ⟨_, wk_i, rfl, wk_refl⟩)⟩)))), fun row61 => fip oi_sort (f2p (o_ne (a := (v55 : (List Int))) (b := (row61.mergeSort : (List Int)))) (⟨_, rfl, ⟨_, _, _, rfl, rfl, (fun _ => ks_ret (ke_c (a := (false : Bool)) rfl (rtC (rtFj (q := 1) (ν := .cl) (r := (false : Bool)) (fun _ h => h) rfl)))), (fun _ => ks_pass (fct (wk_cons wk_i (wk_cons wk_i (wk_cons wk_i (wk_cons wk_i (wk_cons wk_i (wk_cons wk_i (wk_cons wk_i (wk_cons wk_i (wk_cons wk_i (wk_cons wk_t (wk_cons wk_i (wk_cons wk_i (wk_cons wk_i (wk_cons wk_t (wk_cons wk_t (wk_nil))))))))))))))))))⟩⟩))⟩⟩))))))))))))))))))))) (ks_ret (ke_c (a := (true : Bool)) rfl (rtFj (q := 1) (ν := .cl) (r := (true : Bool)) (fun _ h => h) rfl))))))⟩⟩)))))))⟩⟩)))⟩)))))))))⟩⟩))))⟩⟩))))))))))))))))))⟩⟩))⟩)))))))⟩⟩))⟩)))))))))⟩⟩)))⟩))))))))))⟩))))))))))))))))))))))))))))⟩))))))))))))⟩))))))) (hq := Nat.le_of_ble_eq_true rfl)
/-- _law_other: (F2 Int Int), (T2 Int (List (T2 (List (T2 Int Rat)) (List (T2 Int Rat))))) -/
noncomputable def b_law_other : Stm :=
  sSeq (sAsg (eLst (aN)) (gN 2))
  (sSeq (sFor (iL (eIxV 1 (eC (.int 1)))) (gT 2 (gsC (gN 3) (gsC (gN 4) (gsN))))
  (sSeq (sAsg (eLc 9 (iL (eLst (aC (eV 3) (aC (eV 4) (aN))))) (gN 6) (bYes) (eLc 9 (iL (eV 6)) (gT 2 (gsC (gN 7) (gsC (gN 8) (gsN)))) (bYes) (eTup (aC (eV 7) (aC (eCallX m_amount2 0 (aN)) (aN)))) [7, 8]) [6]) (gN 5))
  (sApp 2 (eTup (aC (eIxV 5 (eC (.int 0))) (aC (eIxV 5 (eC (.int 1))) (aN)))))))
  (sRet (eTup (aC (eIxV 1 (eC (.int 0))) (aC (eM 2) (aN))))))
noncomputable def m_law_other : Fn := fnM 2 9 true b_law_other
noncomputable def f_law_other (pool_here1 : (F2 Int Int)) (net_here2 : (T2 Int (List (T2 (List (T2 Int Rat)) (List (T2 Int Rat)))))) : M ((T2 Int (List (T2 (List (T2 Int Rat)) (List (T2 Int Rat))))) × (F2 Int Int)) :=
  (forN (fun (x4 : (T2 (List (T2 Int Rat)) (List (T2 Int Rat)))) (s3 : ((F2 Int Int) × (List (T2 (List (T2 Int Rat)) (List (T2 Int Rat)))))) => (mapS (fun (x6 : (List (T2 Int Rat))) (s5 : (F2 Int Int)) => ((mapS (fun (x8 : (T2 Int Rat)) (s7 : (F2 Int Int)) => ((f_amount2 s7 ).call.bind2 fun (v9 : Rat) (pool_here10 : (F2 Int Int)) => M.ok ((⟨x8.a, v9⟩ : (T2 Int Rat)), pool_here10) : M ((T2 Int Rat) × (F2 Int Int)))) x6 s5).bind2 fun (row12 : (List (T2 Int Rat))) (s11 : (F2 Int Int)) => M.ok (row12, s11) : M ((List (T2 Int Rat)) × (F2 Int Int)))) ([x4.a, x4.b] : (List (List (T2 Int Rat)))) s3.1).bind2 fun (row14 : (List (List (T2 Int Rat)))) (s13 : (F2 Int Int)) => (ix row14 (0 : Int)).bind fun (v15 : (List (T2 Int Rat))) => (ix row14 (1 : Int)).bind fun (v16 : (List (T2 Int Rat))) => (appL s3.2 (⟨v15, v16⟩ : (T2 (List (T2 Int Rat)) (List (T2 Int Rat))))).bind fun (rows17 : (List (T2 (List (T2 Int Rat)) (List (T2 Int Rat))))) => M.ok (s13, rows17)) net_here2.b (pool_here1, ([] : (List (T2 (List (T2 Int Rat)) (List (T2 Int Rat))))))).bind fun (s18 : ((F2 Int Int) × (List (T2 (List (T2 Int Rat)) (List (T2 Int Rat)))))) => M.ok ((⟨net_here2.a, s18.2⟩ : (T2 Int (List (T2 (List (T2 Int Rat)) (List (T2 Int Rat)))))), s18.1)
theorem s_law_other (pool_here1 : (F2 Int Int)) (net_here2 : (T2 Int (List (T2 (List (T2 Int Rat)) (List (T2 Int Rat)))))) : SFx m_law_other (enc pool_here1) [enc net_here2] (f_law_other pool_here1 net_here2) .any := by
  unfold f_law_other m_law_other b_law_other
  exact sfx [Is (enc pool_here1) .cl, Is (enc net_here2) .any, Tp, Tp, Tp, Tp, Tp, Tp, Tp] (ks_seq (ks_asg (ke_lst (ka_nil (fl (a := ([] : (List (T2 (List (T2 Int Rat)) (List (T2 Int Rat)))))) .cl (kt_n 2 (ks_seq (ks_for (α := (T2 (List (T2 Int Rat)) (List (T2 Int Rat)))) (ki_L (ke_ixV 1 (at_ rfl trivial) (ke_c (a := ((1 : Int) : Int)) rfl (⟨_, rfl, at_ rfl (fxAp iv_2b rfl (⟨_, rfl, ⟨_, (fun (s3 : ((F2 Int Int) × (List (T2 (List (T2 Int Rat)) (List (T2 Int Rat)))))) => [Is (enc (s3.1 : (F2 Int Int))) .cl, Is (enc (net_here2 : (T2 Int (List (T2 (List (T2 Int Rat)) (List (T2 Int Rat))))))) .any, Is (enc (s3.2 : (List (T2 (List (T2 Int Rat)) (List (T2 Int Rat)))))) .top, Tp, Tp, Tp, Tp, Tp, Tp]), _, _, _, _, rfl, rfl, (wk_cons wk_i (wk_cons wk_i (wk_cons wk_ct (wk_cons wk_t (wk_cons wk_t (wk_cons wk_t (wk_cons wk_t (wk_cons wk_t (wk_cons wk_t (wk_nil)))))))))), (fun x4 s3 => kt_2 (kt_n 3 (kt_n 4 (ks_seq (ks_asg (ke_mapS (α := (List (T2 Int Rat))) (γ := (List (T2 Int Rat))) (ki_L (ke_lst (ka_cons (ke_va 3 rfl (ka_cons (ke_va 4 rfl (ka_nil (fl (a := ([x4.a, x4.b] : (List (List (T2 Int Rat))))) .top (⟨_, rfl, ⟨_, (fun (s5 : (F2 Int Int)) => [Is (enc (s5 : (F2 Int Int))) .cl, Is (enc (net_here2 : (T2 Int (List (T2 (List (T2 Int Rat)) (List (T2 Int Rat))))))) .any, Is (enc (s3.2 : (List (T2 (List (T2 Int Rat)) (List (T2 Int Rat)))))) .top, Is (enc (x4.a : (List (T2 Int Rat)))) .any, Is (enc (x4.b : (List (T2 Int Rat)))) .any, Tp, Tp, Tp, Tp]), .cl, _, _, _, _, rfl, rfl, rfl, wk_refl, (fun _ => (vs_c rfl vs_nil)), (fun x6 s5 => kt_n 6 (ke_mapS (α := (T2 Int Rat)) (γ := (T2 Int Rat)) (ki_L (ke_va 6 rfl (⟨_, rfl, ⟨_, (fun (s7 : (F2 Int Int)) => [Is (enc (s7 : (F2 Int Int))) .cl, Is (enc (net_here2 : (T2 Int (List (T2 (List (T2 Int Rat)) (List (T2 Int Rat))))))) .any, Is (enc (s3.2 : (List (T2 (List (T2 Int Rat)) (List (T2 Int Rat)))))) .top, Is (enc (x4.a : (List (T2 Int Rat)))) .any, Is (enc (x4.b : (List (T2 Int Rat)))) .any, Tp, Is (enc (x6 : (List (T2 Int Rat)))) .any, Tp, Tp]), .cl, _, _, _, _, rfl, rfl, rfl, wk_refl, (fun _ => (vs_c rfl (vs_c rfl vs_nil))), (fun x8 s7 => kt_2 (kt_n 7 (kt_n 8 (ke_tup (ka_cons (ke_vF 7 rfl (ka_cons (ke_callX 0 (at_ rfl trivial) (ka_nil (fcx (s_amount2 s7 ) fun v9 pool_here10 => ka_nil (ft (a := (⟨x8.a, v9⟩ : (T2 Int Rat))) .cl (⟨_, _, wk_i, rfl, wk_refl⟩)))))))))))), fun row12 s11 => ⟨_, _, wk_i, rfl, wk_refl⟩⟩⟩))))), fun row14 s13 => kt_n 5 (ks_app (α := (T2 (List (T2 Int Rat)) (List (T2 Int Rat)))) 2 sm_top _ ⟨_, rfl⟩ (ke_tup (ka_cons (ke_ixV 5 (at_ rfl trivial) (ke_c (a := ((0 : Int) : Int)) rfl (⟨_, rfl, at_ rfl (fxN iv_list fun v15 => ka_cons (ke_ixV 5 (at_ rfl trivial) (ke_c (a := ((1 : Int) : Int)) rfl (⟨_, rfl, at_ rfl (fxA iv_list rfl fun v16 => ka_nil (ft (a := (⟨v15, v16⟩ : (T2 (List (T2 Int Rat)) (List (T2 Int Rat))))) .any (⟨_, _, _, rfl, rfl, rfl, rfl, fun rows17 => fj (wk_cons wk_i (wk_cons wk_i (wk_cons wk_i (wk_cons wk_t (wk_cons wk_t (wk_cons wk_t (wk_cons wk_t (wk_cons wk_t (wk_cons wk_t (wk_nil))))))))))⟩)))⟩))))⟩))))))⟩⟩))))))))))))))), fun s18 => ks_ret (ke_tup (ka_cons (ke_ixV 1 (at_ rfl trivial) (ke_c (a := ((0 : Int) : Int)) rfl (⟨_, rfl, at_ rfl (fxFp iv_2a (ka_cons (ke_m 2 rfl (ka_nil (ft (a := (⟨net_here2.a, s18.2⟩ : (T2 Int (List (T2 (List (T2 Int Rat)) (List (T2 Int Rat))))))) .any (rtFx (ν := .any) (r := ((⟨net_here2.a, s18.2⟩ : (T2 Int (List (T2 (List (T2 Int Rat)) (List (T2 Int Rat)))))) : (T2 Int (List (T2 (List (T2 Int Rat)) (List (T2 Int Rat))))))) (fun _ h => h) rfl))))))⟩)))))⟩⟩))⟩))))))))))))
/-- _law_other_stand: (F2 Int Int), (List Rat) -/
noncomputable def b_law_other_stand : Stm :=
  sSeq (sAsg (eLst (aN)) (gN 2))
  (sSeq (sFor (iL (eV 1)) (gN 3)
  (sSeq (sAsg (eCallX m_amount2 0 (aN)) (gN 4))
  (sApp 2 (eIx (eLst (aC (eTup (aC (eC (.int 0)) (aC (eC (.int 1)) (aN)))) (aC (eV 4) (aN)))) (eB gInt (aC (eBin fGt (eIxV 3 (eC (.int 0))) (eC (.int 0))) (aN)))))))
  (sRet (eM 2)))
noncomputable def m_law_other_stand : Fn := fnM 2 5 true b_law_other_stand
noncomputable def f_law_other_stand (pool_here1 : (F2 Int Int)) (stand_here2 : (List Rat)) : M ((List Rat) × (F2 Int Int)) :=
  (forN (fun (x4 : Rat) (s3 : ((F2 Int Int) × (List Rat))) => (f_amount2 s3.1 ).call.bind2 fun (v5 : Rat) (pool_here6 : (F2 Int Int)) => (ix ([(0 : Rat), v5] : (List Rat)) (boolI (decide ((0 : Int) < x4.num)))).bind fun (v7 : Rat) => (appL s3.2 v7).bind fun (found8 : (List Rat)) => M.ok (pool_here6, found8)) stand_here2 (pool_here1, ([] : (List Rat)))).bind fun (s9 : ((F2 Int Int) × (List Rat))) => M.ok (s9.2, s9.1)
theorem s_law_other_stand (pool_here1 : (F2 Int Int)) (stand_here2 : (List Rat)) : SFx m_law_other_stand (enc pool_here1) [enc stand_here2] (f_law_other_stand pool_here1 stand_here2) .cl := by
  unfold f_law_other_stand m_law_other_stand b_law_other_stand
  exact sfx [Is (enc pool_here1) .cl, Is (enc stand_here2) .any, Tp, Tp, Tp] (ks_seq (ks_asg (ke_lst (ka_nil (fl (a := ([] : (List Rat))) .cl (kt_n 2 (ks_seq (ks_for (α := Rat) (ki_L (ke_va 1 rfl (⟨_, rfl, ⟨_, (fun (s3 : ((F2 Int Int) × (List Rat))) => [Is (enc (s3.1 : (F2 Int Int))) .cl, Is (enc (stand_here2 : (List Rat))) .any, Is (enc (s3.2 : (List Rat))) .cl, Tp, Tp]), _, _, _, _, rfl, rfl, wk_refl, (fun x4 s3 => kt_n 3 (ks_seq (ks_asg (ke_callX 0 (at_ rfl trivial) (ka_nil (fcx (s_amount2 s3.1 ) fun v5 pool_here6 => kt_n 4 (ks_app (α := Rat) 2 sm_flat _ ⟨_, rfl⟩ (ke_ix (ke_lst (ka_cons (ke_tup (ka_cons (ke_c (a := ((0 : Int) : Int)) rfl (ka_cons (ke_c (a := ((1 : Int) : Int)) rfl (ka_nil (ft (a := (0 : Rat)) .cl (ka_cons (ke_vF 4 rfl (ka_nil (fl (a := ([(0 : Rat), v5] : (List Rat))) .cl (ke_b (ka_cons (ke_bin (ke_ixV 3 (at_ rfl trivial) (ke_c (a := ((0 : Int) : Int)) rfl (⟨_, rfl, at_ rfl (fxFp iv_qa (ke_c (a := ((0 : Int) : Int)) rfl (f2p o_gt (ka_nil (fap o_int (⟨_, rfl, feF iv_list fun v7 => ⟨_, _, _, rfl, rfl, rfl, rfl, fun found8 => fj (wk_cons wk_i (wk_cons wk_i (wk_cons wk_i (wk_cons wk_t (wk_cons wk_t (wk_nil))))))⟩⟩))))))⟩))))))))))))))))))))))))))), fun s9 => ks_ret (ke_m 2 rfl (rtFx (ν := .cl) (r := (s9.2 : (List Rat))) (fun _ h => h) rfl))⟩⟩)))))))))))
/-- _law_amounts -/
noncomputable def b_law_amounts : Stm :=
  sSeq (sAsg (eCallX m_law_other 1 (aC (eV 0) (aN))) (gN 5))
  (sSeq (sIf (bOf (eBinV fNe (eCall m_can_be (aC (eV 5) (aC (eCallX m_law_other_stand 1 (aC (eV 2) (aN))) (aC (eV 3) (aN))))) 4)) (sRet (eC (.bl false))) (sPass))
  (sSeq (sAsg (eLc 9 (iR1 (aC (eIxV 0 (eC (.int 0))) (aN))) (gN 7) (bOf (eBin fEq (eIx (eIxV 2 (eV 7)) (eC (.int 0))) (eC (.int 0)))) (eV 7) [7]) (gN 6))
  (sRet (eBin fEq (eLc 9 (iL (eLst (aC (eFn fnA_stays_dry) (aC (eFn fnA_stays_wet) (aN))))) (gN 8) (bOf (eBin fNe (eCallV 8 fnA_stays_dry m_stays_dry fnA_stays_wet m_stays_wet (aC (eV 5) (aC (eV 6) (aN)))) (eCallV 8 fnA_stays_dry m_stays_dry fnA_stays_wet m_stays_wet (aC (eV 0) (aC (eV 6) (aN)))))) (eV 8) [8]) (eLst (aN))))))
noncomputable def m_law_amounts : Fn := fnJ 1 5 9 b_law_amounts
noncomputable def f_law_amounts (pool_here2 : (F2 Int Int)) (net_here1 : (T2 Int (List (T2 (List (T2 Int Rat)) (List (T2 Int Rat)))))) (stand_here3 : (List Rat)) (deeds4 : (List Int)) (told5 : (T2 (List Int) (List Int))) : M (Bool × (F2 Int Int)) :=
  (f_law_other pool_here2 net_here1).call.bind2 fun (v6 : (T2 Int (List (T2 (List (T2 Int Rat)) (List (T2 Int Rat)))))) (pool_here7 : (F2 Int Int)) => (f_law_other_stand pool_here7 stand_here3).call.bind2 fun (v8 : (List Rat)) (pool_here9 : (F2 Int Int)) => (f_can_be v6 v8 deeds4).call.bind fun (v10 : (T2 (List Int) (List Int))) => (if (!(decide ((v10 : (T2 (List Int) (List Int))) = told5))) then M.ok (false, pool_here9) else (rgM 0 net_here1.a).bind fun (xs11 : List Int) => (fltM (fun (x13 : Int) => ((ix stand_here3 x13).bind fun (v14 : Rat) => (if (decide ((v14.num : Int) = (0 : Int))) then M.ok (some x13) else M.ok none) : M (Option Int))) xs11).bind fun (row16 : (List Int)) => ((f_stays_dry v6 row16).call.bind fun (v17 : (List Int)) => (f_stays_dry net_here1 row16).call.bind fun (v18 : (List Int)) => M.ok (!(decide ((v17 : (List Int)) = v18))) : M Bool).bind fun (t21 : Bool) => if t21 then M.no else ((f_stays_wet v6 row16).call.bind fun (v19 : (List Int)) => (f_stays_wet net_here1 row16).call.bind fun (v20 : (List Int)) => M.ok (!(decide ((v19 : (List Int)) = v20))) : M Bool).bind fun (t22 : Bool) => if t22 then M.no else M.ok ((decide ((([] : List Unit) : (List Unit)) = ([] : (List Unit)))), pool_here9))
theorem s_law_amounts (pool_here2 : (F2 Int Int)) (net_here1 : (T2 Int (List (T2 (List (T2 Int Rat)) (List (T2 Int Rat)))))) (stand_here3 : (List Rat)) (deeds4 : (List Int)) (told5 : (T2 (List Int) (List Int))) : SFx m_law_amounts (enc pool_here2) [enc net_here1, enc stand_here3, enc deeds4, enc told5] (f_law_amounts pool_here2 net_here1 stand_here3 deeds4 told5) .cl := by
  unfold f_law_amounts m_law_amounts b_law_amounts
  exact sfxJ [Is (enc net_here1) .any, Is (enc pool_here2) .cl, Is (enc stand_here3) .any, Is (enc deeds4) .any, Is (enc told5) .any, Tp, Tp, Tp, Tp] (ks_seq (ks_asg (ke_callX 1 (at_ rfl trivial) (ka_cons (ke_va 0 rfl (ka_nil (fcx (s_law_other pool_here2 net_here1) fun v6 pool_here7 => kt_n 5 (ks_seq (ks_if (kb_of (ke_binV (ke_call (ka_cons (ke_va 5 rfl (ka_cons (ke_callX 1 (at_ rfl trivial) (ka_cons (ke_va 2 rfl (ka_nil (fcx (s_law_other_stand pool_here7 stand_here3) fun v8 pool_here9 => ka_cons (ke_va 3 rfl (ka_nil (fc (s_can_be v6 v8 deeds4) fun v10 => at_ rfl (f2p (o_ne (a := (v10 : (T2 (List Int) (List Int)))) (b := (told5 : (T2 (List Int) (List Int))))) (⟨_, rfl, ⟨_, _, _, rfl, rfl, (fun _ => ks_ret (ke_c (a := (false : Bool)) rfl (rtFj (q := 1) (ν := .cl) (r := (false : Bool)) (fun _ h => h) rfl))), (fun _ => ks_pass (ks_seq (ks_asg (ke_fltM (α := Int) (γ := Int) (ki_R1 (ka_cons (ke_ixV 0 (at_ rfl trivial) (ke_c (a := ((0 : Int) : Int)) rfl (⟨_, rfl, at_ rfl (fxFp iv_2a (ka_nil (⟨_, _, _, rfl, rfl, fun xs11 => ⟨[Is (enc (net_here1 : (T2 Int (List (T2 (List (T2 Int Rat)) (List (T2 Int Rat))))))) .any, Is (enc (pool_here9 : (F2 Int Int))) .cl, Is (enc (stand_here3 : (List Rat))) .any, Is (enc (deeds4 : (List Int))) .any, Is (enc (told5 : (T2 (List Int) (List Int)))) .any, Is (enc (v6 : (T2 Int (List (T2 (List (T2 Int Rat)) (List (T2 Int Rat))))))) .any, Tp, Tp, Tp], .cl, _, _, _, rfl, rfl, rfl, wk_refl, (vs_c rfl vs_nil), (fun x13 => kt_n 7 (kb_of (ke_bin (ke_ix (ke_ixV 2 (at_ rfl trivial) (ke_vF 7 rfl (⟨_, rfl, at_ rfl (fxF iv_list fun v14 => ke_c (a := ((0 : Int) : Int)) rfl (⟨_, rfl, feFp iv_qa (ke_c (a := ((0 : Int) : Int)) rfl (f2p (o_eq (a := (v14.num : Int)) (b := ((0 : Int) : Int))) (⟨_, rfl, twM (⟨rfl, wk_refl⟩) (ke_vF 7 rfl (⟨_, wk_i, rfl, wk_refl⟩))⟩)))⟩))⟩))))))), fun row16 => kt_n 6 (ks_ret (ke_bin (ke_lcF (Δ := [Is (enc (net_here1 : (T2 Int (List (T2 (List (T2 Int Rat)) (List (T2 Int Rat))))))) .any, Is (enc (pool_here9 : (F2 Int Int))) .cl, Is (enc (stand_here3 : (List Rat))) .any, Is (enc (deeds4 : (List Int))) .any, Is (enc (told5 : (T2 (List Int) (List Int)))) .any, Is (enc (v6 : (T2 Int (List (T2 (List (T2 Int Rat)) (List (T2 Int Rat))))))) .any, Is (enc (row16 : (List Int))) .any, Tp, Tp]) rfl (wk_cons wk_i (wk_cons wk_i (wk_cons wk_i (wk_cons wk_i (wk_cons wk_i (wk_cons wk_i (wk_cons wk_a (wk_cons wk_t (wk_cons wk_t (wk_nil)))))))))) (kb_of (ke_bin (ke_callV1 rfl (ke_call (ka_cons (ke_va 5 rfl (ka_cons (ke_va 6 rfl (ka_nil (fc (s_stays_dry v6 row16) fun v17 => ke_callV1 rfl (ke_call (ka_cons (ke_va 0 rfl (ka_cons (ke_va 6 rfl (ka_nil (fc (s_stays_dry net_here1 row16) fun v18 => f2p (o_ne (a := (v17 : (List Int))) (b := (v18 : (List Int)))) (⟨_, rfl, ⟨rfl, wk_refl⟩⟩)))))))))))))))))) (kb_of (ke_bin (ke_callV2 rfl (ke_call (ka_cons (ke_va 5 rfl (ka_cons (ke_va 6 rfl (ka_nil (fc (s_stays_wet v6 row16) fun v19 => ke_callV2 rfl (ke_call (ka_cons (ke_va 0 rfl (ka_cons (ke_va 6 rfl (ka_nil (fc (s_stays_wet net_here1 row16) fun v20 => f2p (o_ne (a := (v19 : (List Int))) (b := (v20 : (List Int)))) (⟨_, rfl, ⟨rfl, wk_refl⟩⟩)))))))))))))))))) rfl (ke_lst (ka_nil (fl (a := ([] : (List Unit))) .cl (f2p (o_eq (a := (([] : List Unit) : (List Unit))) (b := (([] : (List Unit)) : (List Unit)))) (rtFj (q := 1) (ν := .cl) (r := ((decide ((([] : List Unit) : (List Unit)) = ([] : (List Unit)))) : Bool)) (fun _ h => h) rfl))))))))⟩⟩)))⟩)))))))))⟩⟩))))))))))))))))))))))))) (hq := Nat.le_of_ble_eq_true rfl)
/-- _law_no_fewer: (T2 Int (List (T2 (List (T2 Int Rat)) (List (T2 Int Rat))))), (List Rat), (List Rat), (List Int), (T2 (List Int) (List Int)) -/
noncomputable def b_law_no_fewer : Stm :=
  sSeq (sAsg (eLc 13 (iZ (aC (eV 1) (aC (eV 2) (aN)))) (gT 2 (gsC (gN 9) (gsC (gN 10) (gsN)))) (bYes) (eIx (eLst (aC (eV 9) (aC (eV 10) (aN)))) (eB gInt (aC (eBin fEq (eIxV 9 (eC (.int 0))) (eC (.int 0))) (aN)))) [9, 10]) (gN 5))
  (sSeq (sAsg (eCall m_can_be (aC (eV 0) (aC (eV 5) (aC (eV 3) (aN))))) (gN 6))
  (sSeq (sFor (iL (eLst (aC (eV 4) (aC (eCall m_can_be (aC (eV 0) (aC (eV 2) (aC (eV 3) (aN))))) (aN))))) (gN 7)
  (sFor (iR1 (aC (eC (.int 2)) (aN))) (gN 8)
  (sIf (bOf (eBin fNe (eLc 13 (iL (eIxV 7 (eV 8))) (gN 11) (bOf (eBin fNotIn (eV 11) (eIxV 6 (eV 8)))) (eV 11) [11]) (eLst (aN)))) (sRet (eC (.bl false))) (sPass))))
  (sSeq (sAsg (eCall m_can_be (aC (eV 0) (aC (eV 1) (aC (eB gLR1 (aC (eB gLen (aC (eIxV 0 (eC (.int 1))) (aN))) (aN))) (aN))))) (gN 6))
  (sRet (eBin fEq (eLc 13 (iL (eIxV 4 (eC (.int 0)))) (gN 12) (bOf (eBin fNotIn (eV 12) (eIxV 6 (eC (.int 0))))) (eV 12) [12]) (eLst (aN)))))))
noncomputable def m_law_no_fewer : Fn := fnM 5 13 false b_law_no_fewer
noncomputable def f_law_no_fewer (net_here1 : (T2 Int (List (T2 (List (T2 Int Rat)) (List (T2 Int Rat)))))) (one2 : (List Rat)) (two3 : (List Rat)) (deeds4 : (List Int)) (told5 : (T2 (List Int) (List Int))) : M Bool :=
  (mapM (fun (x7 : (T2 Rat Rat)) => ((ix ([x7.a, x7.b] : (List Rat)) (boolI (decide ((x7.a.num : Int) = (0 : Int))))).bind fun (v8 : Rat) => M.ok v8 : M Rat)) (zp one2 two3)).bind fun (row10 : (List Rat)) => (f_can_be net_here1 row10 deeds4).call.bind fun (v11 : (T2 (List Int) (List Int))) => (f_can_be net_here1 two3 deeds4).call.bind fun (v12 : (T2 (List Int) (List Int))) => (forC (ρ := Bool) (fun (x14 : (T2 (List Int) (List Int))) (s13 : Unit) => (rgM 0 (2 : Int)).bind fun (xs15 : List Int) => (forC (ρ := (Ctl Bool Unit)) (fun (x17 : Int) (s16 : Unit) => (ix [x14.a, x14.b] x17).bind fun (v18 : (List Int)) => (fltM (fun (x20 : Int) => ((ix [v11.a, v11.b] x17).bind fun (v21 : (List Int)) => (if (!(decide (x20 ∈ v21))) then M.ok (some x20) else M.ok none) : M (Option Int))) v18).bind fun (row23 : (List Int)) => (if (!(decide ((row23 : (List Int)) = ([] : (List Int))))) then M.ok (Ctl.rt (Ctl.rt false)) else M.ok (Ctl.nx ()))) xs15 ()).bind fun c => c.go fun (s24 : Unit) => M.ok (Ctl.nx ())) ([told5, v12] : (List (T2 (List Int) (List Int)))) ()).bind fun c => c.go fun (s25 : Unit) => (rgM 0 (net_here1.b.length : Int)).bind fun (xs26 : List Int) => (f_can_be net_here1 one2 xs26).call.bind fun (v27 : (T2 (List Int) (List Int))) => (fltM (fun (x29 : Int) => ((if (!(decide (x29 ∈ v27.a))) then M.ok (some x29) else M.ok none) : M (Option Int))) told5.a).bind fun (row31 : (List Int)) => M.ok ((decide ((row31 : (List Int)) = ([] : (List Int)))))
theorem s_law_no_fewer (net_here1 : (T2 Int (List (T2 (List (T2 Int Rat)) (List (T2 Int Rat)))))) (one2 : (List Rat)) (two3 : (List Rat)) (deeds4 : (List Int)) (told5 : (T2 (List Int) (List Int))) : SFa m_law_no_fewer [enc net_here1, enc one2, enc two3, enc deeds4, enc told5] (f_law_no_fewer net_here1 one2 two3 deeds4 told5) .cl := by
  unfold f_law_no_fewer m_law_no_fewer b_law_no_fewer
  exact sfa [Is (enc net_here1) .any, Is (enc one2) .any, Is (enc two3) .any, Is (enc deeds4) .any, Is (enc told5) .any, Tp, Tp, Tp, Tp, Tp, Tp, Tp, Tp] (ks_seq (ks_asg (ke_mapM (α := (T2 Rat Rat)) (γ := Rat) (ki_Z (ka_cons (ke_va 1 rfl (ka_cons (ke_va 2 rfl (ka_nil (⟨_, _, _, _, rfl, ⟨[Is (enc (net_here1 : (T2 Int (List (T2 (List (T2 Int Rat)) (List (T2 Int Rat))))))) .any, Is (enc (one2 : (List Rat))) .any, Is (enc (two3 : (List Rat))) .any, Is (enc (deeds4 : (List Int))) .any, Is (enc (told5 : (T2 (List Int) (List Int)))) .any, Tp, Tp, Tp, Tp, Tp, Tp, Tp, Tp], .cl, _, _, _, rfl, rfl, rfl, wk_refl, (vs_c rfl (vs_c rfl vs_nil)), (fun x7 => kt_2 (kt_n 9 (kt_n 10 (ke_ix (ke_lst (ka_cons (ke_vF 9 rfl (ka_cons (ke_vF 10 rfl (ka_nil (fl (a := ([x7.a, x7.b] : (List Rat))) .cl (ke_b (ka_cons (ke_bin (ke_ixV 9 (at_ rfl trivial) (ke_c (a := ((0 : Int) : Int)) rfl (⟨_, rfl, at_ rfl (fxFp iv_qa (ke_c (a := ((0 : Int) : Int)) rfl (f2p (o_eq (a := (x7.a.num : Int)) (b := ((0 : Int) : Int))) (ka_nil (fap o_int (⟨_, rfl, feF iv_list fun v8 => ⟨_, wk_i, rfl, wk_refl⟩⟩))))))⟩))))))))))))))))), fun row10 => kt_n 5 (ks_seq (ks_asg (ke_call (ka_cons (ke_va 0 rfl (ka_cons (ke_v 5 rfl (ka_cons (ke_va 3 rfl (ka_nil (fc (s_can_be net_here1 row10 deeds4) fun v11 => kt_n 6 (ks_seq (ks_forC (α := (T2 (List Int) (List Int))) (ki_L (ke_lst (ka_cons (ke_va 4 rfl (ka_cons (ke_call (ka_cons (ke_va 0 rfl (ka_cons (ke_va 2 rfl (ka_cons (ke_va 3 rfl (ka_nil (fc (s_can_be net_here1 two3 deeds4) fun v12 => ka_nil (fl (a := ([told5, v12] : (List (T2 (List Int) (List Int))))) .top (⟨_, rfl, ⟨_, (fun (s13 : Unit) => [Is (enc (net_here1 : (T2 Int (List (T2 (List (T2 Int Rat)) (List (T2 Int Rat))))))) .any, Is (enc (one2 : (List Rat))) .any, Is (enc (two3 : (List Rat))) .any, Is (enc (deeds4 : (List Int))) .any, Is (enc (told5 : (T2 (List Int) (List Int)))) .any, Is (enc (row10 : (List Rat))) .any, Is (enc (v11 : (T2 (List Int) (List Int)))) .any, Tp, Tp, Tp, Tp, Tp, Tp]), _, _, _, _, rfl, rfl, (wk_cons wk_i (wk_cons wk_i (wk_cons wk_i (wk_cons wk_i (wk_cons wk_i (wk_cons wk_i (wk_cons wk_a (wk_cons wk_t (wk_cons wk_t (wk_cons wk_t (wk_cons wk_t (wk_cons wk_t (wk_cons wk_t (wk_nil)))))))))))))), (fun x14 s13 => kt_n 7 (ks_forC (α := Int) (ki_R1 (ka_cons (ke_c (a := ((2 : Int) : Int)) rfl (ka_nil (⟨_, _, _, rfl, rfl, fun xs15 => ⟨_, (fun (s16 : Unit) => [Is (enc (net_here1 : (T2 Int (List (T2 (List (T2 Int Rat)) (List (T2 Int Rat))))))) .any, Is (enc (one2 : (List Rat))) .any, Is (enc (two3 : (List Rat))) .any, Is (enc (deeds4 : (List Int))) .any, Is (enc (told5 : (T2 (List Int) (List Int)))) .any, Is (enc (row10 : (List Rat))) .any, Is (enc (v11 : (T2 (List Int) (List Int)))) .any, Is (enc (x14 : (T2 (List Int) (List Int)))) .any, Tp, Tp, Tp, Tp, Tp]), _, _, _, _, rfl, rfl, wk_refl, (fun x17 s16 => kt_n 8 (ks_if (kb_of (ke_bin (ke_fltM (α := Int) (γ := Int) (ki_L (ke_ixV 7 (at_ rfl trivial) (ke_vF 8 rfl (⟨_, rfl, at_ rfl (fxA iv_2d rfl fun v18 => ⟨_, rfl, ⟨[Is (enc (net_here1 : (T2 Int (List (T2 (List (T2 Int Rat)) (List (T2 Int Rat))))))) .any, Is (enc (one2 : (List Rat))) .any, Is (enc (two3 : (List Rat))) .any, Is (enc (deeds4 : (List Int))) .any, Is (enc (told5 : (T2 (List Int) (List Int)))) .any, Is (enc (row10 : (List Rat))) .any, Is (enc (v11 : (T2 (List Int) (List Int)))) .any, Is (enc (x14 : (T2 (List Int) (List Int)))) .any, Is (enc (x17 : Int)) .any, Tp, Tp, Tp, Tp], .cl, _, _, _, rfl, rfl, rfl, wk_refl, (vs_c rfl vs_nil), (fun x20 => kt_n 11 (kb_of (ke_bin (ke_vF 11 rfl (ke_ixV 6 (at_ rfl trivial) (ke_vF 8 rfl (⟨_, rfl, at_ rfl (fxA iv_2d rfl fun v21 => f2p o_nin (⟨_, rfl, twM (⟨rfl, wk_refl⟩) (ke_vF 11 rfl (⟨_, wk_i, rfl, wk_refl⟩))⟩))⟩))))))), fun row23 => ke_lst (ka_nil (fl (a := ([] : (List Int))) .cl (f2p (o_ne (a := (row23 : (List Int))) (b := (([] : (List Int)) : (List Int)))) (⟨_, rfl, ⟨_, _, _, rfl, rfl, (fun _ => ks_ret (ke_c (a := (false : Bool)) rfl (rtC (rtC (rtF (ν := .cl) (r := (false : Bool)) (fun _ h => h)))))), (fun _ => ks_pass (fct (wk_cons wk_i (wk_cons wk_i (wk_cons wk_i (wk_cons wk_i (wk_cons wk_i (wk_cons wk_i (wk_cons wk_i (wk_cons wk_i (wk_cons wk_t (wk_cons wk_t (wk_cons wk_t (wk_cons wk_t (wk_cons wk_t (wk_nil))))))))))))))))⟩⟩))))⟩⟩)⟩))))))))), fun s24 => fct (wk_cons wk_i (wk_cons wk_i (wk_cons wk_i (wk_cons wk_i (wk_cons wk_i (wk_cons wk_i (wk_cons wk_i (wk_cons wk_t (wk_cons wk_t (wk_cons wk_t (wk_cons wk_t (wk_cons wk_t (wk_cons wk_t (wk_nil))))))))))))))⟩⟩))))))), fun s25 => ks_seq (ks_asg (ke_call (ka_cons (ke_va 0 rfl (ka_cons (ke_va 1 rfl (ka_cons (ke_b (ka_cons (ke_b (ka_cons (ke_ixV 0 (at_ rfl trivial) (ke_c (a := ((1 : Int) : Int)) rfl (⟨_, rfl, at_ rfl (fxAp iv_2b rfl (ka_nil (fap o_len (ka_nil (fa o_lr1 fun xs26 => ka_nil (fc (s_can_be net_here1 one2 xs26) fun v27 => kt_n 6 (ks_ret (ke_bin (ke_fltM (α := Int) (γ := Int) (ki_L (ke_ixV 4 (at_ rfl trivial) (ke_c (a := ((0 : Int) : Int)) rfl (⟨_, rfl, at_ rfl (fxAp iv_2a rfl (⟨_, rfl, ⟨[Is (enc (net_here1 : (T2 Int (List (T2 (List (T2 Int Rat)) (List (T2 Int Rat))))))) .any, Is (enc (one2 : (List Rat))) .any, Is (enc (two3 : (List Rat))) .any, Is (enc (deeds4 : (List Int))) .any, Is (enc (told5 : (T2 (List Int) (List Int)))) .any, Is (enc (row10 : (List Rat))) .any, Is (enc (v27 : (T2 (List Int) (List Int)))) .any, Tp, Tp, Tp, Tp, Tp, Tp], .cl, _, _, _, rfl, rfl, rfl, (wk_cons wk_i (wk_cons wk_i (wk_cons wk_i (wk_cons wk_i (wk_cons wk_i (wk_cons wk_i (wk_cons wk_a (wk_cons wk_t (wk_cons wk_t (wk_cons wk_t (wk_cons wk_t (wk_cons wk_t (wk_cons wk_t (wk_nil)))))))))))))), (vs_c rfl vs_nil), (fun x29 => kt_n 12 (kb_of (ke_bin (ke_vF 12 rfl (ke_ixV 6 (at_ rfl trivial) (ke_c (a := ((0 : Int) : Int)) rfl (⟨_, rfl, at_ rfl (fxAp iv_2a rfl (f2p o_nin (⟨_, rfl, twM (⟨rfl, wk_refl⟩) (ke_vF 12 rfl (⟨_, wk_i, rfl, wk_refl⟩))⟩)))⟩))))))), fun row31 => ke_lst (ka_nil (fl (a := ([] : (List Int))) .cl (f2p (o_eq (a := (row31 : (List Int))) (b := (([] : (List Int)) : (List Int)))) (rtF (ν := .cl) (r := ((decide ((row31 : (List Int)) = ([] : (List Int)))) : Bool)) (fun _ h => h)))))⟩⟩))⟩)))))))))))))⟩))))))))))))))⟩⟩)))))))))))))))))))))))))))))⟩⟩))))))))))
/-- law: Scr -/
noncomputable def b_law : Stm :=
  sSeq (sAsg (eCall m_net2c (aC (eV 0) (aC (eC (.int 0)) (aC (eC (.int 8)) (aN))))) (gN 1))
  (sSeq (sFor (iR2 (aC (eC (.int 11)) (aC (eB gMax (aC (eC (.int 13)) (aC (eB gMin (aC (eBV gLen 0) (aC (eC (.int 35)) (aN)))) (aN)))) (aN)))) (gN 2)
  (sSeq (sAsg (eCall m_law_pool (aC (eV 0) (aC (eV 2) (aN)))) (gN 3))
  (sSeq (sAsg (eCallX m_stand2 3 (aC (eIxV 1 (eC (.int 0))) (aN))) (gN 4))
  (sSeq (sAsg (eCallX m_law_some 3 (aC (eB gLen (aC (eIxV 1 (eC (.int 1))) (aN))) (aN))) (gN 5))
  (sSeq (sAsg (eCall m_can_be (aC (eV 1) (aC (eV 4) (aC (eV 5) (aN))))) (gN 6))
  (sSeq (sIf (bOr (bNot (bOf (eCallX m_law_in_order 3 (aC (eV 1) (aC (eV 4) (aC (eV 5) (aC (eV 6) (aN)))))))) (bNot (bOf (eCallX m_law_amounts 3 (aC (eV 1) (aC (eV 4) (aC (eV 5) (aC (eV 6) (aN))))))))) (sRet (eC (.bl false))) (sPass))
  (sIf (bNot (bOf (eCall m_law_no_fewer (aC (eV 1) (aC (eV 4) (aC (eCallX m_stand2 3 (aC (eIxV 1 (eC (.int 0))) (aN))) (aC (eV 5) (aC (eV 6) (aN))))))))) (sRet (eC (.bl false))) (sPass))))))))
  (sRet (eC (.bl true))))
noncomputable def m_law : Fn := fnM 1 7 false b_law
noncomputable def f_law (script1 : Scr) : M Bool :=
  (f_net2c script1 (0 : Int) (8 : Int)).call.bind fun (v2 : (T2 Int (List (T2 (List (T2 Int Rat)) (List (T2 Int Rat)))))) => (rgM (11 : Int) (max (13 : Int) (min (script1.l.length : Int) (35 : Int)))).bind fun (xs3 : List Int) => (forC (ρ := Bool) (fun (x5 : Int) (s4 : Unit) => (f_law_pool script1 x5).call.bind fun (v6 : (F2 Int Int)) => (f_stand2 v6 v2.a).call.bind2 fun (v7 : (List Rat)) (pool_here8 : (F2 Int Int)) => (f_law_some pool_here8 (v2.b.length : Int)).call.bind2 fun (v9 : (List Int)) (pool_here10 : (F2 Int Int)) => (f_can_be v2 v7 v9).call.bind fun (v11 : (T2 (List Int) (List Int))) => (f_law_in_order pool_here10 v2 v7 v9 v11).call.bind2 fun (v12 : Bool) (pool_here13 : (F2 Int Int)) => (if (!v12) then M.ok (Ctl.rt false) else (f_law_amounts pool_here13 v2 v7 v9 v11).call.bind2 fun (v14 : Bool) (pool_here15 : (F2 Int Int)) => (if (!v14) then M.ok (Ctl.rt false) else (f_stand2 pool_here15 v2.a).call.bind2 fun (v16 : (List Rat)) (pool_here17 : (F2 Int Int)) => (f_law_no_fewer v2 v7 v16 v9 v11).call.bind fun (v18 : Bool) => (if (!v18) then M.ok (Ctl.rt false) else M.ok (Ctl.nx ()))))) xs3 ()).bind fun c => c.go fun (s19 : Unit) => M.ok true
theorem s_law (script1 : Scr) : SFa m_law [enc script1] (f_law script1) .cl := by
  unfold f_law m_law b_law
  exact sfa [Is (enc script1) .any, Tp, Tp, Tp, Tp, Tp, Tp] (ks_seq (ks_asg (ke_call (ka_cons (ke_va 0 rfl (ka_cons (ke_c (a := ((0 : Int) : Int)) rfl (ka_cons (ke_c (a := ((8 : Int) : Int)) rfl (ka_nil (fc (s_net2c script1 (0 : Int) (8 : Int)) fun v2 => kt_n 1 (ks_seq (ks_forC (α := Int) (ki_R2 (ka_cons (ke_c (a := ((11 : Int) : Int)) rfl (ka_cons (ke_b (ka_cons (ke_c (a := ((13 : Int) : Int)) rfl (ka_cons (ke_b (ka_cons (ke_bV (at_ rfl (fap (o_lenX ⟨_, rfl, by simp⟩) (ka_cons (ke_c (a := ((35 : Int) : Int)) rfl (ka_nil (fap o_min (ka_nil (fap o_max (ka_nil (⟨_, _, _, _, _, rfl, rfl, fun xs3 => ⟨_, (fun (s4 : Unit) => [Is (enc (script1 : Scr)) .any, Is (enc (v2 : (T2 Int (List (T2 (List (T2 Int Rat)) (List (T2 Int Rat))))))) .any, Tp, Tp, Tp, Tp, Tp]), _, _, _, _, rfl, rfl, (wk_cons wk_i (wk_cons wk_a (wk_cons wk_t (wk_cons wk_t (wk_cons wk_t (wk_cons wk_t (wk_cons wk_t (wk_nil)))))))), (fun x5 s4 => kt_n 2 (ks_seq (ks_asg (ke_call (ka_cons (ke_va 0 rfl (ka_cons (ke_vF 2 rfl (ka_nil (fc (s_law_pool script1 x5) fun v6 => kt_n 3 (ks_seq (ks_asg (ke_callX 3 (at_ rfl trivial) (ka_cons (ke_ixV 1 (at_ rfl trivial) (ke_c (a := ((0 : Int) : Int)) rfl (⟨_, rfl, at_ rfl (fxFp iv_2a (ka_nil (fcx (s_stand2 v6 v2.a) fun v7 pool_here8 => kt_n 4 (ks_seq (ks_asg (ke_callX 3 (at_ rfl trivial) (ka_cons (ke_b (ka_cons (ke_ixV 1 (at_ rfl trivial) (ke_c (a := ((1 : Int) : Int)) rfl (⟨_, rfl, at_ rfl (fxAp iv_2b rfl (ka_nil (fap o_len (ka_nil (fcx (s_law_some pool_here8 (v2.b.length : Int)) fun v9 pool_here10 => kt_n 5 (ks_seq (ks_asg (ke_call (ka_cons (ke_va 1 rfl (ka_cons (ke_v 4 rfl (ka_cons (ke_v 5 rfl (ka_nil (fc (s_can_be v2 v7 v9) fun v11 => kt_n 6 (ks_seq (ks_ifor (ks_if (kb_not (kb_of (ke_callX 3 (at_ rfl trivial) (ka_cons (ke_va 1 rfl (ka_cons (ke_va 4 rfl (ka_cons (ke_va 5 rfl (ka_cons (ke_v 6 rfl (ka_nil (fcx (s_law_in_order pool_here10 v2 v7 v9 v11) fun v12 pool_here13 => ⟨_, rfl, ⟨_, _, _, rfl, rfl, (fun _ => ks_ret (ke_c (a := (false : Bool)) rfl (rtC (rtF (ν := .cl) (r := (false : Bool)) (fun _ h => h))))), (fun _ => ks_if (kb_not (kb_of (ke_callX 3 (at_ rfl trivial) (ka_cons (ke_va 1 rfl (ka_cons (ke_va 4 rfl (ka_cons (ke_va 5 rfl (ka_cons (ke_va 6 rfl (ka_nil (fcx (s_law_amounts pool_here13 v2 v7 v9 v11) fun v14 pool_here15 => ⟨_, rfl, ⟨_, _, _, rfl, rfl, (fun _ => ks_ret (ke_c (a := (false : Bool)) rfl (rtC (rtF (ν := .cl) (r := (false : Bool)) (fun _ h => h))))), (fun _ => ks_pass (ks_if (kb_not (kb_of (ke_call (ka_cons (ke_va 1 rfl (ka_cons (ke_va 4 rfl (ka_cons (ke_callX 3 (at_ rfl trivial) (ka_cons (ke_ixV 1 (at_ rfl trivial) (ke_c (a := ((0 : Int) : Int)) rfl (⟨_, rfl, at_ rfl (fxFp iv_2a (ka_nil (fcx (s_stand2 pool_here15 v2.a) fun v16 pool_here17 => ka_cons (ke_va 5 rfl (ka_cons (ke_va 6 rfl (ka_nil (fc (s_law_no_fewer v2 v7 v16 v9 v11) fun v18 => ⟨_, rfl, ⟨_, _, _, rfl, rfl, (fun _ => ks_ret (ke_c (a := (false : Bool)) rfl (rtC (rtF (ν := .cl) (r := (false : Bool)) (fun _ h => h))))), (fun _ => ks_pass (fct (wk_cons wk_i (wk_cons wk_i (wk_cons wk_t (wk_cons wk_t (wk_cons wk_t (wk_cons wk_t (wk_cons wk_t (wk_nil))))))))))⟩⟩))))))))⟩)))))))))))))))⟩⟩))))))))))))))⟩⟩))))))))))))))))))))))))))))))))⟩))))))))))))⟩))))))))))))))))), fun s19 => ks_ret (ke_c (a := (true : Bool)) rfl (rtF (ν := .cl) (r := (true : Bool)) (fun _ h => h)))⟩⟩))))))))))))))))))))))))))))))))))
theorem bind_ok {α : Type} (w : M α) : (w.bind fun x => M.ok x) = w := by cases w <;> rfl
section
variable {n n' : Net} {f f' : Int → Rat} {ds ds' : List Int}
theorem wet_mapP {s t : WS} {φ π : Int → Int} (hs : Wet n f ds s) (ht : Wet n' f' ds' t) (hd : ∀ d ∈ ds, φ d ∈ ds') (hi : ∀ p ∈ wets n.a f, π p ∈ wets n'.a f') (htk : ∀ d ∈ ds, ∀ p ∈ tkN n' (φ d), ∃ p0 ∈ tkN n d, π p0 = p) (hgv : ∀ d ∈ ds, ∀ p ∈ gvN n d, π p ∈ gvN n' (φ d)) : (∀ d ∈ s.2.1, φ d ∈ t.2.1) ∧ ∀ p ∈ s.1, π p ∈ t.1 := by
  have h := wet_map hs ht hd hi htk hgv
  refine ⟨h, fun p hp => ?_⟩
  rcases (hs.wi p).mp hp with q | ⟨d, hd, q⟩
  · exact (ht.wi _).mpr (.inl (hi p q))
  · exact (ht.wi _).mpr (.inr ⟨φ d, h d hd, hgv d (hs.fd d hd) p q⟩)
/-- no fewer -/
theorem wet_more {s t : WS} (hs : Wet n f ds s) (ht : Wet n f' ds' t) (hd : ∀ d ∈ ds, d ∈ ds') (hi : ∀ p ∈ wets n.a f, p ∈ wets n.a f') : (∀ d ∈ s.2.1, d ∈ t.2.1) ∧ ∀ p ∈ s.1, p ∈ t.1 :=
  wet_mapP (φ := id) (π := id) hs ht hd hi (fun d _ p hp => ⟨p, hp, rfl⟩) fun d _ p hp => hp
end
theorem ms_nd {xs : List Int} (h : xs.Nodup) : xs.mergeSort.Nodup := (List.mergeSort_perm xs _).nodup_iff.mpr h
theorem ms_mem {xs : List Int} {k : Int} : k ∈ xs.mergeSort ↔ k ∈ xs := (List.mergeSort_perm xs _).mem_iff
theorem ms_le (zs : List Int) : zs.mergeSort.Pairwise (· ≤ ·) := (List.pairwise_mergeSort (le := fun a b : Int => decide (a ≤ b)) (fun a b c => by simp; omega) (fun a b => by simp; omega) zs).imp (by simp)
theorem ms_of {xs : List Int} (h : xs.Pairwise (· ≤ ·)) : xs.mergeSort = xs := sort_uniq (List.mergeSort_perm xs _) (ms_le xs) h
section
variable {P : List Int} {m : Nat}
theorem map_nd (O : Ord P m) {xs : List Int} (hx : xs.Nodup) (hr : ∀ x ∈ xs, 0 ≤ x ∧ x < (m : Int)) : (xs.map (sgm P)).Nodup := by
  refine List.pairwise_map.mpr (hx.imp_of_mem fun {a b} ha hb hab e => hab ?_)
  have ra := hr a ha
  have rb := hr b hb
  rw [← (O.sr ra.1 ra.2).2, e, (O.sr rb.1 rb.2).2]
/-- numbers put otherwise, in order -/
theorem map_sort (O : Ord P m) {xs ys : List Int} (hx : xs.Nodup) (hr : ∀ x ∈ xs, 0 ≤ x ∧ x < (m : Int)) (hy : ys.Nodup) (h1 : ∀ x ∈ xs, sgm P x ∈ ys) (h2 : ∀ y ∈ ys, sgi P y ∈ xs ∧ sgm P (sgi P y) = y) : ys.mergeSort = (xs.map (sgm P)).mergeSort :=
  sort_same hy (map_nd O hx hr) fun k => ⟨fun hk => List.mem_map.mpr ⟨_, (h2 k hk).1, (h2 k hk).2⟩, fun hk => by
    obtain ⟨x, hx, rfl⟩ := List.mem_map.mp hk
    exact h1 x hx⟩
end
def rowsG (K : Nat) (a b : Int → List Int) : List CRow := (rg 0 (K : Int)).map fun k => ⟨a k, b k⟩
theorem closed_iff {K : Nat} {a b : Int → List Int} {C : Int → Prop} : Closed (rowsG K a b) C ↔ ∀ k : Int, 0 ≤ k → k < K → (∃ p ∈ a k, C p) → ∃ p ∈ b k, C p := by
  unfold Closed rowsG
  constructor
  · intro h k k0 k1
    exact h ⟨a k, b k⟩ (List.mem_map.mpr ⟨k, mem_rg.mpr ⟨k0, k1⟩, rfl⟩)
  · intro h r hr
    obtain ⟨k, hk, rfl⟩ := List.mem_map.mp hr
    exact h k (mem_rg.mp hk).1 (mem_rg.mp hk).2
theorem cut_same {rows : List CRow} {pl r1 r2 : List Int} (h : pl.Pairwise (· < ·)) (c1 : Cut rows pl r1) (c2 : Cut rows pl r2) : r1 = r2 :=
  lt_uniq (h.sublist c1.sub) (h.sublist c2.sub) fun k => ⟨fun hk => c2.gr _ c1.cl (fun p hp => c1.sub.subset hp) k hk, fun hk => c1.gr _ c2.cl (fun p hp => c2.sub.subset hp) k hk⟩
theorem cut_map {P D : List Int} {m K : Nat} (O : Ord P m) (Q : Ord D K) {a b a' b' : Int → List Int} (ha : ∀ k, ∀ p ∈ a k, 0 ≤ p ∧ p < (m : Int)) (hb : ∀ k, ∀ p ∈ b k, 0 ≤ p ∧ p < (m : Int)) (ha' : ∀ k, ∀ p ∈ a' k, 0 ≤ p ∧ p < (m : Int)) (hb' : ∀ k, ∀ p ∈ b' k, 0 ≤ p ∧ p < (m : Int))
    (ea : ∀ k : Int, 0 ≤ k → k < K → ∀ q : Int, 0 ≤ q → q < m → (q ∈ a' k ↔ sgi P q ∈ a (sgi D k))) (eb : ∀ k : Int, 0 ≤ k → k < K → ∀ q : Int, 0 ≤ q → q < m → (q ∈ b' k ↔ sgi P q ∈ b (sgi D k)))
    {dry r r' : List Int} (hd : dry.Pairwise (· < ·)) (hr : ∀ x ∈ dry, 0 ≤ x ∧ x < (m : Int)) (c : Cut (rowsG K a b) dry r) (c' : Cut (rowsG K a' b') (dry.map (sgm P)).mergeSort r') : r' = (r.map (sgm P)).mergeSort := by
  have dn : dry.Nodup := hd.imp fun h => by omega
  have tn : ((dry.map (sgm P)).mergeSort).Nodup := ms_nd (map_nd O dn hr)
  have rn : r.Nodup := dn.sublist c.sub
  have rr : ∀ x ∈ r, 0 ≤ x ∧ x < (m : Int) := fun x hx => hr x (c.sub.subset hx)
  have rn' : r'.Nodup := tn.sublist c'.sub
  have rs' : r'.Pairwise (· ≤ ·) := (ms_le _).sublist c'.sub
  have inr : ∀ q ∈ (dry.map (sgm P)).mergeSort, (0 ≤ q ∧ q < (m : Int)) ∧ sgi P q ∈ dry := fun q hq => by
    obtain ⟨p, hp, rfl⟩ := List.mem_map.mp (ms_mem.mp hq)
    have := hr p hp
    have s := O.sr this.1 this.2
    exact ⟨s.1, by rw [s.2]; exact hp⟩
  have cl := closed_iff.mp c.cl
  have cl' := closed_iff.mp c'.cl
  rw [← ms_of rs']
  refine map_sort O rn rr rn' (fun x hx => ?_) fun y hy => ?_
  · refine c'.gr (fun q => ∃ p ∈ r, sgm P p = q) (closed_iff.mpr fun k k0 k1 ⟨q, hq, p, hp, e⟩ => ?_) (fun q ⟨p, hp, e⟩ => ?_) _ ⟨x, hx, rfl⟩
    · have rp := rr p hp
      have s := O.sr rp.1 rp.2
      have rq := ha' k q hq
      have h1 := (ea k k0 k1 q rq.1 rq.2).mp hq
      rw [← e, s.2] at h1
      have tk := Q.si k0 k1
      obtain ⟨p2, h2, h3⟩ := cl (sgi D k) tk.1.1 tk.1.2 ⟨p, h1, hp⟩
      have rp2 := hb _ p2 h2
      have s2 := O.sr rp2.1 rp2.2
      exact ⟨sgm P p2, (eb k k0 k1 _ s2.1.1 s2.1.2).mpr (by rw [s2.2]; exact h2), p2, h3, rfl⟩
    · exact ms_mem.mpr (List.mem_map.mpr ⟨p, c.sub.subset hp, e⟩)
  · have ry := inr y (c'.sub.subset hy)
    have sy := O.si ry.1.1 ry.1.2
    refine ⟨c.gr (fun p => (0 ≤ p ∧ p < (m : Int)) ∧ sgm P p ∈ r') (closed_iff.mpr fun k k0 k1 ⟨p, hp, rp, hq⟩ => ?_) (fun p ⟨rp, hq⟩ => ?_) _ ⟨sy.1, by rw [sy.2]; exact hy⟩, sy.2⟩
    · have tk := Q.sr k0 k1
      have s := O.sr rp.1 rp.2
      obtain ⟨q2, h2, h3⟩ := cl' (sgm D k) tk.1.1 tk.1.2 ⟨sgm P p, (ea _ tk.1.1 tk.1.2 _ s.1.1 s.1.2).mpr (by rw [s.2, tk.2]; exact hp), hq⟩
      have rq2 := hb' _ q2 h2
      have s2 := O.si rq2.1 rq2.2
      have h4 := (eb _ tk.1.1 tk.1.2 q2 rq2.1 rq2.2).mp h2
      rw [tk.2] at h4
      exact ⟨sgi P q2, h4, s2.1, by rw [s2.2]; exact h3⟩
    · have := (inr _ (c'.sub.subset hq)).2
      rwa [(O.sr rp.1 rp.2).2] at this
theorem law_order_eq {r0 : F2 Int Int} (h0 : Pl r0) {m : Int} (m0 : 0 ≤ m) (m1 : m ≤ 1000) : ∃ o r', f_law_order r0 m = .ok (o, r') ∧ Pl r' ∧ o.Perm (rg 0 m) := by
  unfold f_law_order
  rw [rgM_of m0 (by omega)]
  simp only [M.ok_bind]
  obtain ⟨s', e, hr, _, hp⟩ := forN_ix (f := fun (x5 : Int) (s4 : ((F2 Int Int) × (List Int))) => (f_take2 s4.1 (x5 + (1 : Int))).call.bind2 fun (v6 : Int) (pool_here7 : (F2 Int Int)) => (catL (cut s4.2 none (some v6)) ([x5] : (List Int))).bind fun (xs8 : (List Int)) => (catL xs8 (cut s4.2 (some v6) none)).bind fun (xs9 : (List Int)) => M.ok (pool_here7, xs9))
    (fun k s => Pl s.1 ∧ s.2.length = k ∧ s.2.Perm (rg 0 (k : Int))) (xs := rg 0 m) (s := (r0, [])) ⟨h0, rfl, by simp [rg]⟩ (fun k hk s hI => by
      obtain ⟨hr, hl, hp⟩ := hI
      simp [rg] at hk
      rw [get_rg]
      obtain ⟨x, r1, e1, hr1, x0, x1⟩ := take2_eq hr (n := (0 + (k : Int)) + 1) (by omega) (by omega)
      obtain ⟨j, rfl⟩ : ∃ j : Nat, x = (j : Int) := ⟨x.toNat, by omega⟩
      refine ⟨(r1, s.2.take j ++ [0 + (k : Int)] ++ s.2.drop j), ?_, hr1, ?_, ?_⟩
      · simp only [e1, M.call_ok, M.ok_bind2, cut_take, cut_drop]
        rw [catL_of (by rw [List.length_take]; simp; omega)]
        simp only [M.ok_bind]
        rw [catL_of (by simp; omega)]
        rfl
      · simp only [List.length_append, List.length_take, List.length_drop, List.length_singleton]; omega
      · have e2 : rg 0 ((k + 1 : Nat) : Int) = rg 0 (k : Int) ++ [0 + (k : Int)] := by
          rw [rg0, rg0, List.range_succ, List.map_append]; simp
        rw [e2]
        have h1 : (s.2.take j ++ [0 + (k : Int)] ++ s.2.drop j).Perm ((s.2.take j ++ s.2.drop j) ++ [0 + (k : Int)]) := by
          rw [List.append_assoc, List.append_assoc]
          exact List.Perm.append_left _ List.perm_append_comm
        rw [List.take_append_drop] at h1
        exact h1.trans (List.Perm.append_right _ hp))
  rw [e]
  refine ⟨s'.2, s'.1, rfl, hr, ?_⟩
  have hl : ((rg 0 m).length : Int) = m := by simp [rg]; omega
  rwa [hl] at hp
section
variable {n : Net} {P D : List Int} {m K : Nat}
theorem side_eq (O : Ord P m) {s : Side} (h : SideOk m s) : (mapM (fun (x10 : (T2 Int Rat)) => ((ix P x10.a).bind fun (v11 : Int) => M.ok (⟨v11, x10.b⟩ : (T2 Int Rat)) : M (T2 Int Rat))) s).bind (fun (row13 : (List (T2 Int Rat))) => (sortPM row13).bind fun (v14 : (List (T2 Int Rat))) => M.ok v14) = .ok (sb (invP P m) s) := by
  have e1 : mapM (fun (x10 : (T2 Int Rat)) => ((ix P x10.a).bind fun (v11 : Int) => M.ok (⟨v11, x10.b⟩ : (T2 Int Rat)) : M (T2 Int Rat))) s = .ok (s.map fun p => (⟨sgi (invP P m) p.a, p.b⟩ : T2 Int Rat)) := mapM_of (by have := h.ln; omega) fun x hx => by
    have r := h.rg x hx
    rw [O.ix r.1 r.2, O.invi r.1 r.2]; rfl
  have e2 : sortPM (s.map fun p => (⟨sgi (invP P m) p.a, p.b⟩ : T2 Int Rat)) = .ok (sb (invP P m) s) := if_pos (sb_nd O.inv h)
  rw [e1, M.ok_bind, e2, M.ok_bind]
def rowB (n : Net) (P : List Int) (m : Nat) (d : Int) : Deed := ⟨sb (invP P m) (dd n d).a, sb (invP P m) (dd n d).b⟩
theorem moved_eq (hn : NetOk n) (hm : n.a = (m : Int)) (hK : n.b.length = K) (O : Ord P m) (Q : Ord D K) : f_law_moved n P D = .ok ⟨n.a, vec (K : Int) fun q => some (rowB n P m (sgi D q))⟩ := by
  have hl := hn.ln
  have ql := Q.len
  unfold f_law_moved
  rw [show (D.length : Int) = (K : Int) by rw [ql], rep_vec (by omega) (by omega)]
  simp only [M.ok_bind]
  have ec : (Cst.cst (vec (K : Int) fun _ => ()) : List (Option Deed)) = vec (K : Int) fun _ => none := by
    show (vec (K : Int) fun _ => ()).map (fun _ : Unit => (none : Option Deed)) = _
    unfold vec
    rw [List.map_map]; rfl
  rw [ec, fill_eq Q (fun d => rowB n P m d) (xs := enm n.b) (by simp [enm, hK]) (fun k hk s hs => by
    have hk' : k < n.b.length := by simpa [enm] using hk
    have e0 : (enm n.b)[k] = ⟨(k : Int), n.b[k]⟩ := by simp [enm]
    have ed : dd n (k : Int) = n.b[k] := by
      unfold dd
      rw [show ((k : Nat) : Int).toNat = k by omega, List.getD_eq_getElem?_getD, List.getElem?_eq_getElem hk']; rfl
    have dk := hn.dok (k : Int)
    rw [hm] at dk
    rw [e0, ← ed]
    have em : mapM (fun (x8 : (List (T2 Int Rat))) => ((mapM (fun (x10 : (T2 Int Rat)) => ((ix P x10.a).bind fun (v11 : Int) => M.ok (⟨v11, x10.b⟩ : (T2 Int Rat)) : M (T2 Int Rat))) x8).bind fun (row13 : (List (T2 Int Rat))) => (sortPM row13).bind fun (v14 : (List (T2 Int Rat))) => M.ok v14 : M (List (T2 Int Rat)))) [(dd n (k : Int)).a, (dd n (k : Int)).b] = .ok [sb (invP P m) (dd n (k : Int)).a, sb (invP P m) (dd n (k : Int)).b] := mapM_of (h := sb (invP P m)) (by simp) fun x hx => by
      simp only [List.mem_cons, List.not_mem_nil, or_false] at hx
      rcases hx with rfl | rfl
      · exact side_eq O dk.l
      · exact side_eq O dk.r
    have x0 : ∀ a b : Side, ix [a, b] (0 : Int) = .ok a := fun _ _ => rfl
    have x1 : ∀ a b : Side, ix [a, b] (1 : Int) = .ok b := fun _ _ => rfl
    simp only [em, M.ok_bind, x0, x1, Q.ix (q := (k : Int)) (by omega) (by omega)]
    exact bind_ok (setIx s (sgm D (k : Int)) (some (rowB n P m (k : Int)))))]
  rfl
theorem by_vec (Q : Ord D K) : (vec (K : Int) fun q => rowB n P m (sgi D q)) = byD n (invP P m) (invP D K) := by
  unfold byD vec rowB
  show _ = ((rg 0 (K : Int)).map (sgi D)).map _
  rw [List.map_map]; rfl
end
/-- what is told at first -/
structure Fst (n : Net) (f : RowF) (ds : List Int) (m K : Nat) (s : WS) : Prop where
  h : NetOk n
  hm : n.a = (m : Int)
  hK : n.b.length = K
  dk : DeedsOk n ds
  dn : ds.Nodup
  f0 : ∀ j, 0 ≤ f j
  w : Wet n f ds s
def dryL (n : Net) (f : RowF) : List Int := (rg 0 n.a).filter fun x => decide (f x = 0)
theorem dry_lt {n : Net} {f : RowF} : (dryL n f).Pairwise (· < ·) := (rg_lt 0 n.a).sublist List.filter_sublist
theorem dry_mem {n : Net} {f : RowF} {x : Int} : x ∈ dryL n f ↔ (0 ≤ x ∧ x < n.a) ∧ f x = 0 := by
  unfold dryL
  rw [List.mem_filter, mem_rg]; simp
theorem dry_eq {n : Net} {f : RowF} (h : NetOk n) : fltM (fun (x39 : Int) => ((ix (vec n.a f) x39).bind fun (v40 : Rat) => (if (decide ((v40.num : Int) = (0 : Int))) then M.ok (some x39) else M.ok none) : M (Option Int))) (rg 0 n.a) = .ok (dryL n f) := by
  have m0 := h.m0; have m1 := h.m1
  refine fltM_if (p := fun x => decide (f x = 0)) (by simp; omega) fun j hj => ?_
  rw [mem_rg] at hj
  rw [ix_vec hj.1 hj.2]
  simp only [M.ok_bind]
  by_cases c : f j = 0
  · simp [c]
  · simp [c, Rat.num_eq_zero]
theorem rows_dry {n : Net} {K : Nat} (hK : n.b.length = K) : rowsDry n = rowsG K (gvN n) (tkN n) ∧ rowsWet n = rowsG K (tkN n) (gvN n) := by
  subst hK; exact ⟨rfl, rfl⟩
theorem cst_none {α : Type} [Ty α] {m : Int} : (Cst.cst (vec m fun _ => ()) : List (Option α)) = vec m fun _ => none := by
  show (vec m fun _ => ()).map (fun _ : Unit => (none : Option α)) = _
  unfold vec
  rw [List.map_map]; rfl
theorem put_eq {P : List Int} {m : Nat} (O : Ord P m) {xs : List Int} (hl : xs.length ≤ 1000) (hr : ∀ x ∈ xs, 0 ≤ x ∧ x < (m : Int)) : mapM (fun (x22 : Int) => ((ix P x22).bind fun (v23 : Int) => M.ok v23 : M Int)) xs = .ok (xs.map (sgm P)) := mapM_of (by omega) fun x hx => by
  rw [O.ix (hr x hx).1 (hr x hx).2]; rfl
theorem wn_le {n : Net} {f : RowF} {ds : List Int} {m K : Nat} {s : WS} (F : Fst n f ds m K s) : s.1.length ≤ 1000 ∧ s.2.1.length ≤ 1000 := by
  have h1 := len_le_of_sub (l' := rg 0 n.a) F.w.wn fun p hp => mem_rg.mpr (F.w.wr p hp)
  have h2 := len_le_of_sub F.w.fn F.w.fd
  have := F.h.m1
  have := F.dk.ln
  simp at h1
  omega
theorem in_order_eq {n : Net} {f : RowF} {ds : List Int} {m K : Nat} {s : WS} (F : Fst n f ds m K s) (hD : NetD n AM) {pool : F2 Int Int} (hp : Pl pool) :
    ∃ pool', f_law_in_order pool n (vec n.a f) ds ⟨s.1.mergeSort, s.2.1.mergeSort⟩ = .ok (true, pool') ∧ Pl pool' := by
  have hn := F.h
  have hm := F.hm
  have hK := F.hK
  have hm0 := hn.m0
  have hm1 := hn.m1
  have hln := hn.ln
  obtain ⟨P, r1, e1, hr1, hP⟩ := law_order_eq hp (m := n.a) (by omega) (by omega)
  obtain ⟨D, r2, e2, hr2, hQ⟩ := law_order_eq hr1 (m := (n.b.length : Int)) (by omega) (by omega)
  have O : Ord P m := ord_of (by rw [← hm]; exact hP)
  have Q : Ord D K := ord_of (by rw [← hK]; exact hQ)
  have ok' := (by_ok hn hD hm hK O.inv Q.inv).1
  have I := by_iso hn hD hm hK O.inv Q.inv Q.inv.perm
  generalize hn' : (⟨n.a, byD n (invP P m) (invP D K)⟩ : Net) = n' at ok' I
  have na : n'.a = n.a := by subst hn'; rfl
  have lb : n'.b.length = K := by
    subst hn'
    show (byD n (invP P m) (invP D K)).length = K
    unfold byD; rw [List.length_map, Q.inv.len]
  have ef : forN (fun (x15 : Int) (s14 : (List (Option Rat))) => (ix (vec n.a f) x15).bind fun (v16 : Rat) => (ix P x15).bind fun (v17 : Int) => (setIx s14 v17 (some v16)).bind fun (held18 : (List (Option Rat))) => M.ok held18) (rg 0 n.a) (vec n.a fun _ => none) = .ok (vec n.a fun q => some (f (sgi P q))) := by
    rw [hm]
    exact fill_eq O f (xs := rg 0 (m : Int)) (by simp [rg]) (fun k hk s hs => by
      have hk' : k < m := by simpa [rg] using hk
      rw [get_rg, Int.zero_add]
      simp only [ix_vec (f := f) (m := (m : Int)) (j := (k : Int)) (by omega) (by omega), M.ok_bind, O.ix (q := (k : Int)) (by omega) (by omega)]
      exact bind_ok _)
  have en : (Nrw.nrw (γ := Net) (⟨n.a, vec (K : Int) fun q => some (rowB n P m (sgi D q))⟩ : T2 Int (List (Option Deed))) : M Net) = .ok n' := by
    rw [← hn', ← by_vec Q]
    have e0 := nrw_vec (k := (K : Int)) (F := fun q => rowB n P m (sgi D q))
    show (M.ok n.a).bind (fun x => (Nrw.nrw (γ := List Deed) (vec (K : Int) fun q => some (rowB n P m (sgi D q)))).bind fun y => .ok (⟨x, y⟩ : Net)) = _
    rw [e0]; rfl
  have wr : ∀ p ∈ s.1, 0 ≤ p ∧ p < (m : Int) := fun p hp => by rw [← hm]; exact F.w.wr p hp
  have dr : ∀ d ∈ ds, 0 ≤ d ∧ d < (K : Int) := fun d hd => by rw [← hK]; exact F.dk.rg d hd
  have fr : ∀ d ∈ s.2.1, 0 ≤ d ∧ d < (K : Int) := fun d hd => dr d (F.w.fd d hd)
  have wl := wn_le F
  have w1 := put_eq O (xs := s.1.mergeSort) (by rw [(List.mergeSort_perm s.1 _).length_eq]; omega) fun x hx => wr x (ms_mem.mp hx)
  have w2 := put_eq Q (xs := s.2.1.mergeSort) (by rw [(List.mergeSort_perm s.2.1 _).length_eq]; omega) fun x hx => fr x (ms_mem.mp hx)
  have w3 := put_eq Q (xs := ds) F.dk.ln dr
  have dk' : DeedsOk n' ((ds.map (sgm D)).mergeSort) := ⟨fun x hx => by
    obtain ⟨d, hd, rfl⟩ := List.mem_map.mp (ms_mem.mp hx)
    rw [lb]; exact (Q.sr (dr d hd).1 (dr d hd).2).1, by rw [(List.mergeSort_perm _ _).length_eq, List.length_map]; exact F.dk.ln⟩
  obtain ⟨t, e3, W⟩ := can_be_eq (f := fun q => f (sgi P q)) ok' dk'
  rw [na] at e3
  -- both ways
  have tk2 : ∀ k : Int, 0 ≤ k → k < K → ∀ q : Int, 0 ≤ q → q < m → (q ∈ tkN n' k ↔ sgi P q ∈ tkN n (sgi D k)) := fun k k0 k1 q q0 q1 => by
    have := I.tk k k0 (by rw [lb]; exact k1) q q0 (by rw [na, hm]; exact q1)
    rwa [invP_sgm q0 q1, invP_sgm k0 k1] at this
  have gv2 : ∀ k : Int, 0 ≤ k → k < K → ∀ q : Int, 0 ≤ q → q < m → (q ∈ gvN n' k ↔ sgi P q ∈ gvN n (sgi D k)) := fun k k0 k1 q q0 q1 => by
    have := I.gv k k0 (by rw [lb]; exact k1) q q0 (by rw [na, hm]; exact q1)
    rwa [invP_sgm q0 q1, invP_sgm k0 k1] at this
  have rt : ∀ k, ∀ p ∈ tkN n k, 0 ≤ p ∧ p < (m : Int) := fun k p hp => by rw [← hm]; exact (hn.tk k).2 p hp
  have rv : ∀ k, ∀ p ∈ gvN n k, 0 ≤ p ∧ p < (m : Int) := fun k p hp => by rw [← hm]; exact (hn.gv k).2 p hp
  have rt' : ∀ k, ∀ p ∈ tkN n' k, 0 ≤ p ∧ p < (m : Int) := fun k p hp => by rw [← hm, ← na]; exact (ok'.tk k).2 p hp
  have rv' : ∀ k, ∀ p ∈ gvN n' k, 0 ≤ p ∧ p < (m : Int) := fun k p hp => by rw [← hm, ← na]; exact (ok'.gv k).2 p hp
  have A := wet_mapP (φ := sgm D) (π := sgm P) F.w W (fun d hd => ms_mem.mpr (List.mem_map.mpr ⟨d, hd, rfl⟩)) (fun p hp => by
    have hp' := mem_wets.mp hp
    rw [hm] at hp'
    have s := O.sr hp'.1.1 hp'.1.2
    exact mem_wets.mpr ⟨by rw [na, hm]; exact s.1, by rw [s.2]; exact hp'.2⟩) (fun d hd q hq => by
    have k := Q.sr (dr d hd).1 (dr d hd).2
    have rq := rt' _ q hq
    have h1 := (tk2 _ k.1.1 k.1.2 q rq.1 rq.2).mp hq
    rw [k.2] at h1
    exact ⟨_, h1, (O.si rq.1 rq.2).2⟩) (fun d hd p hp => by
    have k := Q.sr (dr d hd).1 (dr d hd).2
    have rp := rv _ p hp
    have s := O.sr rp.1 rp.2
    exact (gv2 _ k.1.1 k.1.2 _ s.1.1 s.1.2).mpr (by rw [s.2, k.2]; exact hp))
  have B := wet_mapP (φ := sgi D) (π := sgi P) W F.w (fun d hd => by
    obtain ⟨d', hd', rfl⟩ := List.mem_map.mp (ms_mem.mp hd)
    rw [(Q.sr (dr d' hd').1 (dr d' hd').2).2]; exact hd') (fun p hp => by
    have hp' := mem_wets.mp hp
    rw [na, hm] at hp'
    exact mem_wets.mpr ⟨by rw [hm]; exact (O.si hp'.1.1 hp'.1.2).1, hp'.2⟩) (fun d hd q hq => by
    have rd := dk'.rg d hd
    rw [lb] at rd
    have rq := rt _ q hq
    have s := O.sr rq.1 rq.2
    exact ⟨sgm P q, (tk2 d rd.1 rd.2 _ s.1.1 s.1.2).mpr (by rw [s.2]; exact hq), s.2⟩) (fun d hd p hp => by
    have rd := dk'.rg d hd
    rw [lb] at rd
    have rp := rv' _ p hp
    exact (gv2 d rd.1 rd.2 p rp.1 rp.2).mp hp)
  have s1 : t.1.mergeSort = (s.1.mergeSort.map (sgm P)).mergeSort := map_sort O (ms_nd F.w.wn) (fun x hx => wr x (ms_mem.mp hx)) W.wn (fun x hx => A.2 x (ms_mem.mp hx)) fun y hy => ⟨ms_mem.mpr (B.2 y hy), by
    have := W.wr y hy
    rw [na, hm] at this
    exact (O.si this.1 this.2).2⟩
  have s2 : t.2.1.mergeSort = (s.2.1.mergeSort.map (sgm D)).mergeSort := map_sort Q (ms_nd F.w.fn) (fun x hx => fr x (ms_mem.mp hx)) W.fn (fun x hx => A.1 x (ms_mem.mp hx)) fun y hy => ⟨ms_mem.mpr (B.1 y hy), by
    have := dk'.rg y (W.fd y hy)
    rw [lb] at this
    exact (Q.si this.1 this.2).2⟩
  -- the dry places
  have dlen : (dryL n f).length ≤ 1000 := by
    have := List.length_filter_le (fun x => decide (f x = 0)) (rg 0 n.a)
    simp at this
    unfold dryL
    omega
  have drr : ∀ x ∈ dryL n f, 0 ≤ x ∧ x < (m : Int) := fun x hx => by rw [← hm]; exact (dry_mem.mp hx).1
  have w4 := put_eq O (xs := dryL n f) dlen drr
  have tl : ((dryL n f).map (sgm P)).mergeSort.length ≤ 1000 := by rw [(List.mergeSort_perm _ _).length_eq, List.length_map]; exact dlen
  obtain ⟨rA, a1, a2⟩ := stays_dry_eq hn dlen
  obtain ⟨rB, b1, b2⟩ := stays_wet_eq hn dlen
  obtain ⟨rA', a3, a4⟩ := stays_dry_eq ok' tl
  obtain ⟨rB', b3, b4⟩ := stays_wet_eq ok' tl
  rw [(rows_dry hK).1] at a2
  rw [(rows_dry hK).2] at b2
  rw [(rows_dry lb).1] at a4
  rw [(rows_dry lb).2] at b4
  have c1 := cut_map O Q rv rt rv' rt' gv2 tk2 dry_lt drr a2 a4
  have c2 := cut_map O Q rt rv rt' rv' tk2 gv2 dry_lt drr b2 b4
  have w5 := put_eq O (xs := rA) (Nat.le_trans a2.sub.length_le dlen) fun x hx => drr x (a2.sub.subset hx)
  have w6 := put_eq O (xs := rB) (Nat.le_trans b2.sub.length_le dlen) fun x hx => drr x (b2.sub.subset hx)
  refine ⟨r2, ?_, hr2⟩
  unfold f_law_in_order
  simp only [e1, M.call_ok, M.ok_bind2, e2, moved_eq hn hm hK O Q, M.ok_bind, en]
  rw [rep_vec (by omega) (by omega)]
  simp only [M.ok_bind, rgM_of (show (0 : Int) ≤ n.a by omega) (by omega), cst_none, ef, nrw_vec, w1, w2, w3, e3, M.call_ok, s1, s2, decide_true, Bool.not_true, Bool.false_eq_true, if_false, dry_eq hn, w4]
  rw [forC]
  simp only [if_true, a1, a3, w5, M.call_ok, M.ok_bind, c1, decide_true, Bool.not_true, Bool.false_eq_true, if_false]
  rw [forC]
  simp only [b1, b3, w6, M.call_ok, M.ok_bind, c2, decide_true, Bool.not_true, Bool.false_eq_true, if_false, forC, Ctl.go_nx]
theorem side_other {r : F2 Int Int} (hr : Pl r) {s : Side} {m : Int} (h : SideOk m s) : ∃ s' r', mapS (fun (x8 : (T2 Int Rat)) (s7 : (F2 Int Int)) => ((f_amount2 s7 ).call.bind2 fun (v9 : Rat) (pool_here10 : (F2 Int Int)) => M.ok ((⟨x8.a, v9⟩ : (T2 Int Rat)), pool_here10) : M ((T2 Int Rat) × (F2 Int Int)))) s r = .ok (s', r') ∧ Pl r' ∧ SideOk m s' ∧ s'.map T2.a = s.map T2.a := by
  obtain ⟨ys, r', e, hr', hl, hp⟩ := mapS_all (g := fun (x8 : (T2 Int Rat)) (s7 : (F2 Int Int)) => ((f_amount2 s7 ).call.bind2 fun (v9 : Rat) (pool_here10 : (F2 Int Int)) => M.ok ((⟨x8.a, v9⟩ : (T2 Int Rat)), pool_here10) : M ((T2 Int Rat) × (F2 Int Int)))) (xs := s) (s := r) (I := Pl) (P := fun k c => (∃ hk : k < s.length, c.a = s[k].a) ∧ 0 < c.b ∧ Sz c.b 48) (by have := h.ln; omega) hr fun k hk u hu => by
    obtain ⟨q, u', e1, hu', q0, q1⟩ := amount2_eq hu
    exact ⟨⟨s[k].a, q⟩, u', by simp only [e1, M.call_ok, M.ok_bind2], hu', ⟨hk, rfl⟩, q0, q1⟩
  have em : ys.map T2.a = s.map T2.a := by
    apply List.ext_getElem
    · simp [hl]
    · intro k h1 h2
      rw [List.getElem_map, List.getElem_map]
      obtain ⟨_, q⟩ := (hp k (by simpa using h1)).1
      exact q
  refine ⟨ys, r', e, hr', ⟨by rw [em]; exact h.so, fun p hp' => ?_, fun p hp' => ?_, by rw [hl]; exact h.ln⟩, em⟩
  · have : p.a ∈ s.map T2.a := by rw [← em]; exact List.mem_map.mpr ⟨p, hp', rfl⟩
    obtain ⟨x, hx, e⟩ := List.mem_map.mp this
    rw [← e]; exact h.rg x hx
  · obtain ⟨k, hk, rfl⟩ := List.getElem_of_mem hp'
    exact (hp k hk).2
theorem other_eq {n : Net} (h : NetOk n) {r : F2 Int Int} (hr : Pl r) : ∃ n2 r', f_law_other r n = .ok (n2, r') ∧ Pl r' ∧ NetOk n2 ∧ n2.a = n.a ∧ n2.b.length = n.b.length ∧ ∀ k, tkN n2 k = tkN n k ∧ gvN n2 k = gvN n k := by
  have hln := h.ln
  unfold f_law_other
  obtain ⟨⟨r', rows⟩, e, hr', hl, hp⟩ := forN_ix (f := fun (x4 : (T2 (List (T2 Int Rat)) (List (T2 Int Rat)))) (s3 : ((F2 Int Int) × (List (T2 (List (T2 Int Rat)) (List (T2 Int Rat)))))) => (mapS (fun (x6 : (List (T2 Int Rat))) (s5 : (F2 Int Int)) => ((mapS (fun (x8 : (T2 Int Rat)) (s7 : (F2 Int Int)) => ((f_amount2 s7 ).call.bind2 fun (v9 : Rat) (pool_here10 : (F2 Int Int)) => M.ok ((⟨x8.a, v9⟩ : (T2 Int Rat)), pool_here10) : M ((T2 Int Rat) × (F2 Int Int)))) x6 s5).bind2 fun (row12 : (List (T2 Int Rat))) (s11 : (F2 Int Int)) => M.ok (row12, s11) : M ((List (T2 Int Rat)) × (F2 Int Int)))) ([x4.a, x4.b] : (List (List (T2 Int Rat)))) s3.1).bind2 fun (row14 : (List (List (T2 Int Rat)))) (s13 : (F2 Int Int)) => (ix row14 (0 : Int)).bind fun (v15 : (List (T2 Int Rat))) => (ix row14 (1 : Int)).bind fun (v16 : (List (T2 Int Rat))) => (appL s3.2 (⟨v15, v16⟩ : (T2 (List (T2 Int Rat)) (List (T2 Int Rat))))).bind fun (rows17 : (List (T2 (List (T2 Int Rat)) (List (T2 Int Rat))))) => M.ok (s13, rows17))
    (fun k s => Pl s.1 ∧ s.2.length = k ∧ ∀ i (hi : i < s.2.length) (hi2 : i < n.b.length), DeedOk n.a s.2[i] ∧ s.2[i].a.map T2.a = n.b[i].a.map T2.a ∧ s.2[i].b.map T2.a = n.b[i].b.map T2.a) (xs := n.b) (s := (r, [])) ⟨hr, rfl, fun i hi => absurd hi (by simp)⟩ fun k hk s hs => by
      obtain ⟨h1, h2, h3⟩ := hs
      have hd := h.ok _ (List.getElem_mem hk)
      obtain ⟨ys, r1, e1, hr1, yl, yp⟩ := mapS_all (g := fun (x6 : (List (T2 Int Rat))) (s5 : (F2 Int Int)) => ((mapS (fun (x8 : (T2 Int Rat)) (s7 : (F2 Int Int)) => ((f_amount2 s7 ).call.bind2 fun (v9 : Rat) (pool_here10 : (F2 Int Int)) => M.ok ((⟨x8.a, v9⟩ : (T2 Int Rat)), pool_here10) : M ((T2 Int Rat) × (F2 Int Int)))) x6 s5).bind2 fun (row12 : (List (T2 Int Rat))) (s11 : (F2 Int Int)) => M.ok (row12, s11) : M ((List (T2 Int Rat)) × (F2 Int Int)))) (xs := [n.b[k].a, n.b[k].b]) (s := s.1) (I := Pl) (P := fun j c => SideOk n.a c ∧ (j = 0 → c.map T2.a = n.b[k].a.map T2.a) ∧ (j = 1 → c.map T2.a = n.b[k].b.map T2.a)) (by simp) h1 fun j hj u hu => by
        simp at hj
        have hj' : j = 0 ∨ j = 1 := by omega
        rcases hj' with rfl | rfl
        · obtain ⟨c, u', w1, w2, w3, w4⟩ := side_other hu hd.l
          exact ⟨c, u', by simp only [List.getElem_cons_zero, w1, M.ok_bind2], w2, w3, fun _ => w4, fun e => by omega⟩
        · obtain ⟨c, u', w1, w2, w3, w4⟩ := side_other hu hd.r
          exact ⟨c, u', by simp only [List.getElem_cons_succ, List.getElem_cons_zero, w1, M.ok_bind2], w2, w3, fun e => by omega, fun _ => w4⟩
      simp at yl
      match ys, yl with
      | [y0, y1], _ =>
      have p0 := yp 0 (by simp)
      have p1 := yp 1 (by simp)
      simp only [List.getElem_cons_zero, List.getElem_cons_succ] at p0 p1
      refine ⟨(r1, s.2 ++ [⟨y0, y1⟩]), ?_, hr1, by simp [h2], fun i hi hi2 => ?_⟩
      · have x0 : ix [y0, y1] (0 : Int) = .ok y0 := rfl
        have x1 : ix [y0, y1] (1 : Int) = .ok y1 := rfl
        simp only [e1, M.ok_bind2, x0, x1, M.ok_bind, appL_of (show s.2.length < 100000 by omega)]
      · simp only [List.length_append, List.length_singleton] at hi
        by_cases c : i < s.2.length
        · have : (s.2 ++ [(⟨y0, y1⟩ : Deed)])[i] = s.2[i] := List.getElem_append_left c
          simp only [this]
          exact h3 i c hi2
        · have ei : i = s.2.length := by omega
          subst ei
          have : (s.2 ++ [(⟨y0, y1⟩ : Deed)])[s.2.length] = ⟨y0, y1⟩ := by simp
          simp only [this]
          subst h2
          exact ⟨⟨p0.1, p1.1⟩, p0.2.1 trivial, p1.2.2 trivial⟩
  rw [e]
  dsimp only at hr' hl hp
  refine ⟨⟨n.a, rows⟩, r', rfl, hr', ⟨h.m0, h.m1, by show rows.length ≤ 100; omega, fun d hd => ?_⟩, rfl, hl, fun k => ?_⟩
  · obtain ⟨i, hi, rfl⟩ := List.getElem_of_mem hd
    have hi' : i < rows.length := hi
    exact (hp i hi' (by omega)).1
  · unfold tkN gvN dd
    show ((rows.getD k.toNat ⟨[], []⟩).a.map T2.a = _) ∧ ((rows.getD k.toNat ⟨[], []⟩).b.map T2.a = _)
    rw [List.getD_eq_getElem?_getD, List.getD_eq_getElem?_getD]
    by_cases c : k.toNat < n.b.length
    · rw [List.getElem?_eq_getElem (by omega : k.toNat < rows.length), List.getElem?_eq_getElem c]
      exact (hp _ (by omega) c).2
    · rw [List.getElem?_eq_none (by omega), List.getElem?_eq_none (by omega)]
      exact ⟨rfl, rfl⟩
theorem other_stand_eq {m : Int} (m0 : 0 ≤ m) (m1 : m ≤ 1000) {f : RowF} (f0 : ∀ j, 0 ≤ f j) {r : F2 Int Int} (hr : Pl r) : ∃ g r', f_law_other_stand r (vec m f) = .ok (vec m g, r') ∧ Pl r' ∧ ∀ j : Int, 0 ≤ j → j < m → (0 < g j ↔ 0 < f j) := by
  unfold f_law_other_stand
  obtain ⟨⟨r', L⟩, e, hr', hl, hp⟩ := forN_ix (f := fun (x4 : Rat) (s3 : ((F2 Int Int) × (List Rat))) => (f_amount2 s3.1 ).call.bind2 fun (v5 : Rat) (pool_here6 : (F2 Int Int)) => (ix ([(0 : Rat), v5] : (List Rat)) (boolI (decide ((0 : Int) < x4.num)))).bind fun (v7 : Rat) => (appL s3.2 v7).bind fun (found8 : (List Rat)) => M.ok (pool_here6, found8))
    (fun k s => Pl s.1 ∧ s.2.length = k ∧ ∀ i (hi : i < s.2.length), (0 < s.2[i] ↔ 0 < f (i : Int))) (xs := vec m f) (s := (r, [])) ⟨hr, rfl, fun i hi => absurd hi (by simp)⟩ fun k hk s hs => by
      obtain ⟨h1, h2, h3⟩ := hs
      have hk' := hk
      simp at hk'
      obtain ⟨q, u, e1, hu, q0, q1⟩ := amount2_eq h1
      obtain ⟨v, e2, hv⟩ : ∃ v, ix ([(0 : Rat), q] : (List Rat)) (boolI (decide ((0 : Int) < (f (k : Int)).num))) = .ok v ∧ (0 < v ↔ 0 < f (k : Int)) := by
        by_cases c : 0 < f (k : Int)
        · have z : decide ((0 : Int) < (f (k : Int)).num) = true := decide_eq_true (num_pos_iff.mpr c)
          exact ⟨q, by rw [z]; rfl, ⟨fun _ => c, fun _ => q0⟩⟩
        · have z : decide ((0 : Int) < (f (k : Int)).num) = false := decide_eq_false fun h => c (num_pos_iff.mp h)
          exact ⟨0, by rw [z]; rfl, ⟨fun h => absurd h (by decide), fun h => absurd h c⟩⟩
      refine ⟨(u, s.2 ++ [v]), ?_, hu, by simp [h2], fun i hi => ?_⟩
      · rw [get_vec]
        simp only [e1, M.call_ok, M.ok_bind2, e2, M.ok_bind, appL_of (show s.2.length < 100000 by omega)]
      · simp only [List.length_append, List.length_singleton] at hi
        by_cases c : i < s.2.length
        · have : (s.2 ++ [v])[i] = s.2[i] := List.getElem_append_left c
          simp only [this]
          exact h3 i c
        · have ei : i = s.2.length := by omega
          subst ei
          have : (s.2 ++ [v])[s.2.length] = v := by simp
          simp only [this]
          rw [h2]; exact hv
  rw [e]
  dsimp only at hr' hl hp
  have hl' : (L.length : Int) = m := by rw [hl]; simp; omega
  refine ⟨fun j => L.getD j.toNat 0, r', ?_, hr', fun j j0 j1 => ?_⟩
  · have := vec_of L
    rw [hl'] at this
    conv => lhs; simp only [M.ok_bind]; rw [this]
    rfl
  · have hj : j.toNat < L.length := by omega
    show 0 < L.getD j.toNat 0 ↔ _
    rw [List.getD_eq_getElem?_getD, List.getElem?_eq_getElem hj]
    have := hp j.toNat hj
    rw [Int.toNat_of_nonneg j0] at this
    exact this
theorem amounts_eq {n : Net} {f : RowF} {ds : List Int} {m K : Nat} {s : WS} (F : Fst n f ds m K s) {pool : F2 Int Int} (hp : Pl pool) :
    ∃ pool', f_law_amounts pool n (vec n.a f) ds ⟨s.1.mergeSort, s.2.1.mergeSort⟩ = .ok (true, pool') ∧ Pl pool' := by
  have hn := F.h
  have hm0 := hn.m0
  have hm1 := hn.m1
  obtain ⟨n2, r1, e1, hr1, h2, a2, l2, sup⟩ := other_eq hn hp
  obtain ⟨g, r2, e2, hr2, hg⟩ := other_stand_eq (m := n.a) (by omega) (by omega) F.f0 hr1
  have dk2 : DeedsOk n2 ds := ⟨fun x hx => by rw [l2]; exact F.dk.rg x hx, F.dk.ln⟩
  obtain ⟨t, e3, W⟩ := can_be_eq (f := g) h2 dk2
  rw [a2] at e3
  have A := wet_mapP (φ := id) (π := id) F.w W (fun d hd => hd) (fun p hp => by
    have := mem_wets.mp hp
    exact mem_wets.mpr ⟨by rw [a2]; exact this.1, (hg p this.1.1 this.1.2).mpr this.2⟩) (fun d _ p hp => ⟨p, by rw [← (sup d).1]; exact hp, rfl⟩) fun d _ p hp => by show p ∈ gvN n2 d; rw [(sup d).2]; exact hp
  have B := wet_mapP (φ := id) (π := id) W F.w (fun d hd => hd) (fun p hp => by
    have := mem_wets.mp hp
    rw [a2] at this
    exact mem_wets.mpr ⟨this.1, (hg p this.1.1 this.1.2).mp this.2⟩) (fun d _ p hp => ⟨p, by rw [(sup d).1]; exact hp, rfl⟩) fun d _ p hp => by show p ∈ gvN n d; rw [← (sup d).2]; exact hp
  have s1 : t.1.mergeSort = s.1.mergeSort := sort_same W.wn F.w.wn fun k => ⟨B.2 k, A.2 k⟩
  have s2 : t.2.1.mergeSort = s.2.1.mergeSort := sort_same W.fn F.w.fn fun k => ⟨B.1 k, A.1 k⟩
  have dlen : (dryL n f).length ≤ 1000 := by
    have := List.length_filter_le (fun x => decide (f x = 0)) (rg 0 n.a)
    simp at this
    unfold dryL
    omega
  obtain ⟨rA, a1, a3⟩ := stays_dry_eq hn dlen
  obtain ⟨rB, b1, b3⟩ := stays_wet_eq hn dlen
  obtain ⟨rA', a4, a5⟩ := stays_dry_eq h2 dlen
  obtain ⟨rB', b4, b5⟩ := stays_wet_eq h2 dlen
  have rd : rowsDry n2 = rowsDry n := by
    unfold rowsDry
    rw [l2]
    exact List.map_congr_left fun k _ => by rw [(sup k).1, (sup k).2]
  have rw' : rowsWet n2 = rowsWet n := by
    unfold rowsWet
    rw [l2]
    exact List.map_congr_left fun k _ => by rw [(sup k).1, (sup k).2]
  rw [rd] at a5
  rw [rw'] at b5
  have c1 := cut_same dry_lt a5 a3
  have c2 := cut_same dry_lt b5 b3
  refine ⟨r2, ?_, hr2⟩
  unfold f_law_amounts
  simp only [e1, e2, e3, M.call_ok, M.ok_bind, M.ok_bind2, s1, s2, decide_true, Bool.not_true, Bool.false_eq_true, if_false]
  rw [rgM_of (by omega) (by omega)]
  simp only [M.ok_bind, dry_eq hn, a1, a4, b1, b4, M.call_ok, c1, c2, decide_true, Bool.not_true, Bool.false_eq_true, if_false]
theorem out_nil {xs ys : List Int} (hl : xs.length ≤ 100000) (h : ∀ x ∈ xs, x ∈ ys) : fltM (fun (x20 : Int) => ((if (!(decide (x20 ∈ ys))) then M.ok (some x20) else M.ok none) : M (Option Int))) xs = .ok [] := by
  rw [fltM_of (h := fun _ => none) hl fun x hx => by simp [h x hx]]
  simp
theorem no_fewer_eq {n : Net} {f g : RowF} {ds : List Int} {m K : Nat} {s : WS} (F : Fst n f ds m K s) (g0 : ∀ j, 0 ≤ g j) : f_law_no_fewer n (vec n.a f) (vec n.a g) ds ⟨s.1.mergeSort, s.2.1.mergeSort⟩ = .ok true := by
  have hn := F.h
  have hm0 := hn.m0
  have hm1 := hn.m1
  have hln := hn.ln
  have eb : mapM (fun (x7 : (T2 Rat Rat)) => ((ix ([x7.a, x7.b] : (List Rat)) (boolI (decide ((x7.a.num : Int) = (0 : Int))))).bind fun (v8 : Rat) => M.ok v8 : M Rat)) (zp (vec n.a f) (vec n.a g)) = .ok (vec n.a fun j => if f j = 0 then g j else f j) := by
    rw [zp_vec]
    refine mapM_vec (by omega) fun j _ _ => ?_
    by_cases c : f j = 0
    · simp only [c, if_true]; rfl
    · have : ¬ (f j).num = 0 := fun e => c (Rat.num_eq_zero.mp e)
      simp only [c, this, decide_false, if_false]; rfl
  obtain ⟨t, e1, W1⟩ := can_be_eq (f := fun j => if f j = 0 then g j else f j) hn F.dk
  obtain ⟨u, e2, W2⟩ := can_be_eq (f := g) hn F.dk
  obtain ⟨v, e3, W3⟩ := can_be_eq (f := f) hn (deeds_all hn)
  have A := wet_more F.w W1 (fun d hd => hd) (fun p hp => by
    have := mem_wets.mp hp
    refine mem_wets.mpr ⟨this.1, ?_⟩
    have h := this.2
    show 0 < (if f p = 0 then g p else f p)
    rw [if_neg (by grind)]; exact h)
  have B := wet_more W2 W1 (fun d hd => hd) (fun p hp => by
    have := mem_wets.mp hp
    refine mem_wets.mpr ⟨this.1, ?_⟩
    have h := this.2
    have h0 := F.f0 p
    show 0 < (if f p = 0 then g p else f p)
    by_cases c : f p = 0
    · rw [if_pos c]; exact h
    · rw [if_neg c]; grind)
  have C := wet_more F.w W3 (fun d hd => mem_rg.mpr (F.dk.rg d hd)) (fun p hp => hp)
  have len : ∀ {x : WS} {f' : RowF} {ds' : List Int}, Wet n f' ds' x → ds'.length ≤ 1000 → x.1.mergeSort.length ≤ 100000 ∧ x.2.1.mergeSort.length ≤ 100000 := fun {x f' ds'} W hd => by
    have h1 := len_le_of_sub (l' := rg 0 n.a) W.wn fun p hp => mem_rg.mpr (W.wr p hp)
    have h2 := len_le_of_sub W.fn W.fd
    simp at h1
    rw [(List.mergeSort_perm _ _).length_eq, (List.mergeSort_perm _ _).length_eq]
    omega
  have l1 := len F.w F.dk.ln
  have l2 := len W2 F.dk.ln
  have one : ∀ {a b : List Int}, a.length ≤ 100000 → b.length ≤ 100000 → (∀ x ∈ a, x ∈ t.1.mergeSort) → (∀ x ∈ b, x ∈ t.2.1.mergeSort) →
      (forC (ρ := (Ctl Bool Unit)) (fun (x17 : Int) (s16 : Unit) => (ix [a, b] x17).bind fun (v18 : (List Int)) => (fltM (fun (x20 : Int) => ((ix [t.1.mergeSort, t.2.1.mergeSort] x17).bind fun (v21 : (List Int)) => (if (!(decide (x20 ∈ v21))) then M.ok (some x20) else M.ok none) : M (Option Int))) v18).bind fun (row23 : (List Int)) => (if (!(decide ((row23 : (List Int)) = ([] : (List Int))))) then M.ok (Ctl.rt (Ctl.rt false)) else M.ok (Ctl.nx ()))) (rg 0 2) ()) = .ok (.nx ()) := fun {a b} ha hb h1 h2 => by
    have er : rg 0 2 = [0, 1] := rfl
    have x0 : ∀ c d : List Int, ix [c, d] (0 : Int) = .ok c := fun _ _ => rfl
    have x1 : ∀ c d : List Int, ix [c, d] (1 : Int) = .ok d := fun _ _ => rfl
    rw [er, forC]
    simp only [x0, M.ok_bind, out_nil ha h1, decide_true, Bool.not_true, Bool.false_eq_true, if_false]
    rw [forC]
    simp only [x1, M.ok_bind, out_nil hb h2, decide_true, Bool.not_true, Bool.false_eq_true, if_false, forC]
  have o1 := one l1.1 l1.2 (fun x hx => ms_mem.mpr (A.2 x (ms_mem.mp hx))) (fun x hx => ms_mem.mpr (A.1 x (ms_mem.mp hx)))
  have o2 := one l2.1 l2.2 (fun x hx => ms_mem.mpr (B.2 x (ms_mem.mp hx))) (fun x hx => ms_mem.mpr (B.1 x (ms_mem.mp hx)))
  have r2 : rgM 0 2 = .ok (rg 0 2) := rfl
  unfold f_law_no_fewer
  simp only [eb, M.ok_bind, e1, e2, M.call_ok, r2]
  rw [forC]
  simp only [o1, M.ok_bind, Ctl.go_nx]
  rw [forC]
  simp only [o2, M.ok_bind, Ctl.go_nx, forC]
  rw [rgM_of (by omega) (by omega)]
  simp only [M.ok_bind, e3, M.call_ok, out_nil l1.1 fun x hx => ms_mem.mpr (C.2 x (ms_mem.mp hx)), decide_true]
theorem forC_unit {α ρ : Type} {F : α → Unit → M (Ctl ρ Unit)} : ∀ {xs : List α}, (∀ x ∈ xs, F x () = .ok (.nx ())) → forC F xs () = .ok (.nx ())
  | [], _ => rfl
  | x :: xs, h => by
    rw [forC, h x (by simp)]
    exact forC_unit fun y hy => h y (List.mem_cons_of_mem _ hy)
theorem some_eq {r : F2 Int Int} {m : Int} (hr : Pl r) (m0 : 0 ≤ m) (m1 : m ≤ 1000) : ∃ l r', f_law_some r m = .ok (l, r') ∧ Pl r' ∧ l.Sublist (rg 0 m) := by
  obtain ⟨w, r1, e1, hr1, _, _⟩ := take2_eq hr (n := 3) (by decide) (by decide)
  unfold f_law_some
  simp only [e1, M.call_ok, M.ok_bind2]
  by_cases h0 : w = 0
  · rw [if_pos (by simp [h0]), rgM_of m0 (by omega)]
    exact ⟨_, _, rfl, hr1, List.Sublist.refl _⟩
  · rw [if_neg (by simp [h0]), rgM_of m0 (by omega)]
    simp only [M.ok_bind]
    obtain ⟨ys, s', e2, hJ⟩ := fltS_ix (g := fun (x8 : Int) (s7 : (F2 Int Int)) => ((f_take2 s7 (3 : Int)).call.bind2 fun (v9 : Int) (pool_here10 : (F2 Int Int)) => (if (decide (v9 < w)) then M.ok (some x8, pool_here10) else M.ok (none, pool_here10)) : M ((Option Int) × (F2 Int Int)))) (xs := rg 0 m) (s := r1)
      (fun k l s => Pl s ∧ l.Sublist ((rg 0 m).take k)) (by simp; omega) ⟨hr1, by simp⟩ (fun k hk l s hs => by
        obtain ⟨h1, h2⟩ := hs
        obtain ⟨v, s2, e3, hs2, _, _⟩ := take2_eq h1 (n := 3) (by decide) (by decide)
        by_cases hv : v < w
        · refine ⟨some (rg 0 m)[k], s2, by simp only [e3, M.call_ok, M.ok_bind2]; rw [if_pos (by simpa using hv)], hs2, ?_⟩
          rw [List.take_succ_eq_append_getElem hk]
          exact h2.append (List.Sublist.refl _)
        · refine ⟨none, s2, by simp only [e3, M.call_ok, M.ok_bind2]; rw [if_neg (by simpa using hv)], hs2, ?_⟩
          rw [List.take_succ_eq_append_getElem hk]
          show (l ++ []).Sublist _
          rw [List.append_nil]
          exact h2.trans (List.sublist_append_left _ _))
    rw [e2]
    refine ⟨ys, s', rfl, hJ.1, ?_⟩
    have := hJ.2
    rw [List.take_length] at this
    exact this
theorem law_ok (ns : List Int) (h : ns.length ≤ 63) : f_law ⟨ns⟩ = .ok true := by
  obtain ⟨n, e1, hn, hD, ha, hb⟩ := net2cA (s := ⟨ns⟩) (mp := 8) (by decide)
  have hm0 := hn.m0
  have hDA : NetD n AM := ⟨AM0, by decide, fun x p hp => Nat.dvd_trans (hD.l x p hp) ⟨275000, by decide⟩, fun x p hp => Nat.dvd_trans (hD.r x p hp) ⟨275000, by decide⟩⟩
  unfold f_law
  simp only [e1, M.call_ok, M.ok_bind]
  rw [rgM_of' (by omega)]
  simp only [M.ok_bind]
  rw [forC_unit fun k hk => ?_]
  · rfl
  · have hk' := mem_rg.mp hk
    obtain ⟨r, e2, hr⟩ := pool_eq (s := ⟨ns⟩) (k := k) (by omega) (by omega)
    obtain ⟨f, r1, e3, hr1, hf⟩ := stand2_eq hr (m := n.a) (by omega) (by omega)
    obtain ⟨ds, r2, e4, hr2, hds⟩ := some_eq hr1 (m := (n.b.length : Int)) (by omega) (by omega)
    have dk : DeedsOk n ds := ⟨fun x hx => mem_rg.mp (hds.subset hx), by have := hds.length_le; simp at this; omega⟩
    obtain ⟨s, e5, W⟩ := can_be_eq (f := f) hn dk
    obtain ⟨m, hm⟩ : ∃ m : Nat, n.a = (m : Int) := ⟨n.a.toNat, by omega⟩
    have F : Fst n f ds m n.b.length s := ⟨hn, hm, rfl, dk, (rg_nodup 0 _).sublist hds, fun j => (hf j).2, W⟩
    obtain ⟨r3, e6, hr3⟩ := in_order_eq F hDA hr2
    obtain ⟨r4, e7, hr4⟩ := amounts_eq F hr3
    obtain ⟨g, r5, e8, hr5, hg⟩ := stand2_eq hr4 (m := n.a) (by omega) (by omega)
    simp only [e2, e3, e4, e5, e6, e7, e8, M.call_ok, M.ok_bind, M.ok_bind2, Bool.not_true, Bool.false_eq_true, if_false, no_fewer_eq F fun j => (hg j).2]
theorem law_true (ns : List Int) (h : ns.length ≤ 63) : ∃ d0, m_law [.frz (ns.map .int)] = .ok (.bl true, d0) := by
  have hl := law_ok ns h
  rcases s_law ⟨ns⟩ [.frz (ns.map .int)] (by simp [shLmap, enc]) (by rw [hl]; simp) with ⟨r, d, d0, h1, h2, h3⟩ | ⟨c, es, e, h1, _⟩
  · rw [hl] at h1
    cases h1
    obtain ⟨h4, _⟩ := h3.flat
    exact ⟨d0, by rw [h2, h4]; rfl⟩
  · rw [hl] at h1; cases h1
section
variable {P : Program} {w : World} {K : PySem.W.Frag} {mg : Str → Option Value} {base : Heap}
theorem sc_law_pool : FnScope ["_law_script", "_law_k", "_law_cell", "_law_seed"] ["_law_script", "_law_k"] (defScope (topS 13)) := ⟨rfl, rfl, rfl, by decide +kernel, rfl, by decide +kernel, by decide +kernel⟩
theorem fok_law_pool {f : Addr} {fd : FuncData} (Z : Bl P base mg) (T : Cs K mg) (F : Fun K "_law_pool" "_law_pool" (topS 13) f fd)  :
    FnOk P w K mg base CX0 36 f fd ["_law_script", "_law_k"] (spI K 2 m_law_pool) :=
  have S := sc_law_pool
  fn_def (io := false) F S rfl (by decide) fun cdv A outer s H E hr =>
  iss_cons (is_set 2 S.nd (ie_int))
  (iss_cons (is_if (ib_lt (ie_v 1) (ie_lenV 0 Z.len)) (iss_one (is_set 2 S.nd (ie_ixV 0 (ie_v 1)))) (iss_nil))
  (iss_cons (is_set 3 S.nd (ie_mod (ie_mul (ie_add (ie_add (ie_add (ie_mod (ie_v 2) (ie_int)) (ie_mul (ie_mul (ie_int) (ie_v 1)) (ie_v 1))) (ie_mul (ie_int) (ie_v 1))) (ie_int)) (ie_int)) (ie_int)))
  (iss_cons (is_if (ib_lt (ie_v 2) (ie_pow (ie_int) (ie_int))) (iss_one (is_set 2 S.nd (ie_int))) (iss_nil))
  (iss_one (is_ret (ie_lst (ia_cons (ie_m 2) (ia_cons (ie_add (ie_mod (ie_mul (ie_v 3) (ie_v 3)) (ie_int)) (ie_int)) (ia_nil)))))))))
theorem has_law_pool {f : Addr} {fd : FuncData} (Z : Bl P base mg) (T : Cs K mg) (F : Fun K "_law_pool" "_law_pool" (topS 13) f fd) (hm : mg "_law_pool" = some (.ref f))  : Has P w K mg base 36 "_law_pool" 2 m_law_pool :=
  has_of F fnM_len (fok_law_pool Z T F) hm (F.binds (ps := ["_law_script", "_law_k"]) fun _ _ _ _ _ _ us hl => match us, hl with | [_, _], _ => rfl)
theorem sc_take2 : FnScope ["_law_pool_here", "_law_many", "_law_found"] ["_law_pool_here", "_law_many"] (defScope (topS 14)) := ⟨rfl, rfl, rfl, by decide +kernel, rfl, by decide +kernel, by decide +kernel⟩
theorem fok_take2 {f : Addr} {fd : FuncData} (Z : Bl P base mg) (T : Cs K mg) (F : Fun K "_law_take" "_law_take" (topS 14) f fd)  :
    FnOk P w K mg base CX0 36 f fd ["_law_pool_here", "_law_many"] (spI K 2 m_take2) :=
  have S := sc_take2
  fn_def (io := true) F S rfl (by decide) fun cdv A outer s H E hr =>
  have py := py_fn (outer := outer) S hr (by decide) Z.tr Z.sr
  iss_cons (is_if (ib_gt (ie_ixV 0 (ie_int)) (ie_int)) (iss_cons (is_set 2 S.nd (ie_mod (ie_ixV 0 (ie_int)) (ie_v 1)))
  (iss_cons (is_setIx 0 (ie_div py (ie_ixV 0 (ie_int)) (ie_v 1)) (ie_int))
  (iss_one (is_ret (ie_m 2))))) (iss_nil))
  (iss_cons (is_setIx 0 (ie_mod (ie_add (ie_mul (ie_ixV 0 (ie_int)) (ie_int)) (ie_int)) (ie_int)) (ie_int))
  (iss_one (is_ret (ie_mod (ie_div py (ie_mod (ie_mul (ie_ixV 0 (ie_int)) (ie_ixV 0 (ie_int))) (ie_int)) (ie_int)) (ie_v 1)))))
theorem has_take2 {f : Addr} {fd : FuncData} (Z : Bl P base mg) (T : Cs K mg) (F : Fun K "_law_take" "_law_take" (topS 14) f fd) (hm : mg "_law_take" = some (.ref f))  : Has P w K mg base 36 "_law_take" 2 m_take2 :=
  has_of F fnM_len (fok_take2 Z T F) hm (F.binds (ps := ["_law_pool_here", "_law_many"]) fun _ _ _ _ _ _ us hl => match us, hl with | [_, _], _ => rfl)
theorem sc_low : FnScope ["_law_top", "_law_bottom", "_law_one", "_law_other_here"] ["_law_top", "_law_bottom"] (defScope (topS 15)) := ⟨rfl, rfl, rfl, by decide +kernel, rfl, by decide +kernel, by decide +kernel⟩
theorem fok_low {f : Addr} {fd : FuncData} (Z : Bl P base mg) (T : Cs K mg) (F : Fun K "_law_low" "_law_low" (topS 15) f fd)  :
    FnOk P w K mg base CX0 36 f fd ["_law_top", "_law_bottom"] (spI K 2 m_low) :=
  have S := sc_low
  fn_def (io := false) F S rfl (by decide) fun cdv A outer s H E hr =>
  have py := py_fn (outer := outer) S hr (by decide) Z.tr Z.sr
  iss_cons (is_set 2 S.nd (ie_abs Z.abs (ie_v 0)))
  (iss_cons (is_set 3 S.nd (ie_v 1))
  (iss_cons (is_while PassesOwn.never (ib_gt (ie_v 3) (ie_int)) (iss_one (is_par 2 3 rfl S.nd (ia_cons (ie_v 3) (ia_cons (ie_mod (ie_v 2) (ie_v 3)) (ia_nil))))))
  (iss_one (is_ret (ie_tup (ia_cons (ie_div py (ie_v 0) (ie_v 2)) (ia_cons (ie_div py (ie_v 1) (ie_v 2)) (ia_nil))))))))
theorem has_low {f : Addr} {fd : FuncData} (Z : Bl P base mg) (T : Cs K mg) (F : Fun K "_law_low" "_law_low" (topS 15) f fd) (hm : mg "_law_low" = some (.ref f))  : Has P w K mg base 36 "_law_low" 2 m_low :=
  has_of F fnM_len (fok_low Z T F) hm (F.binds (ps := ["_law_top", "_law_bottom"]) fun _ _ _ _ _ _ us hl => match us, hl with | [_, _], _ => rfl)
theorem sc_amount2 : FnScope ["_law_pool_here", "_law_way", "_law_great"] ["_law_pool_here"] (defScope (topS 16)) := ⟨rfl, rfl, rfl, by decide +kernel, rfl, by decide +kernel, by decide +kernel⟩
theorem fok_amount2 {f : Addr} {fd : FuncData} (Z : Bl P base mg) (T : Cs K mg) (F : Fun K "_law_amount" "_law_amount" (topS 16) f fd) (h_take2 : Has P w K mg base 36 "_law_take" 2 m_take2) (h_low : Has P w K mg base 36 "_law_low" 2 m_low) :
    FnOk P w K mg base CX0 37 f fd ["_law_pool_here"] (spI K 1 m_amount2) :=
  have S := sc_amount2
  fn_def (io := true) F S rfl (by decide) fun cdv A outer s H E hr =>
  iss_cons (is_set 1 S.nd (ie_callX 0 h_take2 (hr.mono (by decide)) (ia_cons (ie_int) (ia_nil))))
  (iss_cons (is_if (ib_lt (ie_v 1) (ie_int)) (iss_one (is_ret (ie_tup (ia_cons (ie_add (ie_int) (ie_callX 0 h_take2 (hr.mono (by decide)) (ia_cons (ie_int) (ia_nil)))) (ia_cons (ie_int) (ia_nil)))))) (iss_nil))
  (iss_cons (is_if (ib_lt (ie_v 1) (ie_int)) (iss_one (is_ret (ie_call h_low (hr.mono (by decide)) (ia_cons (ie_add (ie_int) (ie_callX 0 h_take2 (hr.mono (by decide)) (ia_cons (ie_int) (ia_nil)))) (ia_cons (ie_sub (ie_v 1) (ie_int)) (ia_nil)))))) (iss_nil))
  (iss_cons (is_set 2 S.nd (ie_add (ie_add (ie_int) (ie_mul (ie_callX 0 h_take2 (hr.mono (by decide)) (ia_cons (ie_pow (ie_int) (ie_int)) (ia_nil))) (ie_pow (ie_int) (ie_int)))) (ie_callX 0 h_take2 (hr.mono (by decide)) (ia_cons (ie_pow (ie_int) (ie_int)) (ia_nil)))))
  (iss_one (is_ret (ie_call h_low (hr.mono (by decide)) (ia_cons (ie_v 2) (ia_cons (ie_add (ie_int) (ie_callX 0 h_take2 (hr.mono (by decide)) (ia_cons (ie_int) (ia_nil)))) (ia_nil)))))))))
theorem has_amount2 {f : Addr} {fd : FuncData} (Z : Bl P base mg) (T : Cs K mg) (F : Fun K "_law_amount" "_law_amount" (topS 16) f fd) (hm : mg "_law_amount" = some (.ref f)) (h_take2 : Has P w K mg base 36 "_law_take" 2 m_take2) (h_low : Has P w K mg base 36 "_law_low" 2 m_low) : Has P w K mg base 37 "_law_amount" 1 m_amount2 :=
  has_of F fnM_len (fok_amount2 Z T F h_take2 h_low) hm (F.binds (ps := ["_law_pool_here"]) fun _ _ _ _ _ _ us hl => match us, hl with | [_], _ => rfl)
def n_side2 : List Str := ["_law_pool_here", "_law_many", "_law_size", "_law_place"]
theorem sc_side2 : FnScope ["_law_pool_here", "_law_many", "_law_size", "_law_place"] ["_law_pool_here", "_law_many"] (defScope (topS 17)) := ⟨rfl, rfl, rfl, by decide +kernel, rfl, by decide +kernel, by decide +kernel⟩
theorem fok_side2 {f : Addr} {fd : FuncData} (Z : Bl P base mg) (T : Cs K mg) (F : Fun K "_law_side" "_law_side" (topS 17) f fd) (h_take2 : Has P w K mg base 36 "_law_take" 2 m_take2) (h_amount2 : Has P w K mg base 37 "_law_amount" 1 m_amount2) :
    FnOk P w K mg base CX0 38 f fd ["_law_pool_here", "_law_many"] (spI K 2 m_side2) :=
  have S := sc_side2
  fn_def (io := true) F S rfl (by decide) fun cdv A outer s H E hr =>
  iss_cons (is_set 2 S.nd (ie_callX 0 h_take2 (hr.mono (by decide)) (ia_cons (ie_int) (ia_nil))))
  (iss_one (is_ret (ie_lc [("_law_place", 3)] n_side2 (defScope (topS 17)) rfl S.nd (ii_R1 Z.range (ia_cons (ie_v 1) (ia_nil))) (kp_n) (fun _ => ig_name 3 S.nd) (fun _ => its_one (ib_lt (ie_callX 0 h_take2 (hr.mono (by decide)) (ia_cons (ie_v 1) (ia_nil))) (ie_v 2))) (fun _ => ie_tup (ia_cons (ie_v 3) (ia_cons (ie_callX 0 h_amount2 (hr.mono (by decide)) (ia_nil)) (ia_nil)))))))
theorem has_side2 {f : Addr} {fd : FuncData} (Z : Bl P base mg) (T : Cs K mg) (F : Fun K "_law_side" "_law_side" (topS 17) f fd) (hm : mg "_law_side" = some (.ref f)) (h_take2 : Has P w K mg base 36 "_law_take" 2 m_take2) (h_amount2 : Has P w K mg base 37 "_law_amount" 1 m_amount2) : Has P w K mg base 38 "_law_side" 2 m_side2 :=
  has_of F fnM_len (fok_side2 Z T F h_take2 h_amount2) hm (F.binds (ps := ["_law_pool_here", "_law_many"]) fun _ _ _ _ _ _ us hl => match us, hl with | [_, _], _ => rfl)
theorem sc_deed2 : FnScope ["_law_pool_here", "_law_many", "_law_way", "_law_at", "_law_takes", "_law_gives"] ["_law_pool_here", "_law_many"] (defScope (topS 18)) := ⟨rfl, rfl, rfl, by decide +kernel, rfl, by decide +kernel, by decide +kernel⟩
theorem fok_deed2 {f : Addr} {fd : FuncData} (Z : Bl P base mg) (T : Cs K mg) (F : Fun K "_law_deed" "_law_deed" (topS 18) f fd) (h_take2 : Has P w K mg base 36 "_law_take" 2 m_take2) (h_amount2 : Has P w K mg base 37 "_law_amount" 1 m_amount2) (h_side2 : Has P w K mg base 38 "_law_side" 2 m_side2) :
    FnOk P w K mg base CX0 39 f fd ["_law_pool_here", "_law_many"] (spI K 2 m_deed2) :=
  have S := sc_deed2
  fn_def (io := true) F S rfl (by decide) fun cdv A outer s H E hr =>
  iss_cons (is_set 2 S.nd (ie_callX 0 h_take2 (hr.mono (by decide)) (ia_cons (ie_int) (ia_nil))))
  (iss_cons (is_set 3 S.nd (ie_callX 0 h_take2 (hr.mono (by decide)) (ia_cons (ie_v 1) (ia_nil))))
  (iss_cons (is_if (ib_cmpL 2 ((op_eqD hr.units).or op_eq) os_eq (ie_int)) (iss_one (is_ret (ie_tup (ia_cons (ie_callX 0 h_side2 (hr.mono (by decide)) (ia_cons (ie_v 1) (ia_nil))) (ia_cons (ie_callX 0 h_side2 (hr.mono (by decide)) (ia_cons (ie_v 1) (ia_nil))) (ia_nil)))))) (iss_nil))
  (iss_cons (is_set 4 S.nd (ie_lst (ia_cons (ie_tup (ia_cons (ie_v 3) (ia_cons (ie_callX 0 h_amount2 (hr.mono (by decide)) (ia_nil)) (ia_nil)))) (ia_nil))))
  (iss_cons (is_set 5 S.nd (ie_lst (ia_cons (ie_tup (ia_cons (ie_mod (ie_add (ie_add (ie_v 3) (ie_int)) (ie_callX 0 h_take2 (hr.mono (by decide)) (ia_cons (ie_v 1) (ia_nil)))) (ie_v 1)) (ia_cons (ie_callX 0 h_amount2 (hr.mono (by decide)) (ia_nil)) (ia_nil)))) (ia_nil))))
  (iss_cons (is_if (ib_cmpL 2 ((op_eqD hr.units).or op_eq) os_eq (ie_int)) (iss_one (is_set 5 S.nd (ie_items rfl Z.sorted Z.dict (ie_add (ie_v 5) (ie_lst (ia_cons (ie_tup (ia_cons (ie_v 3) (ia_cons (ie_callX 0 h_amount2 (hr.mono (by decide)) (ia_nil)) (ia_nil)))) (ia_nil)))) (ho := rfl)))) (iss_nil))
  (iss_cons (is_if (ib_cmpL 2 ((op_eqD hr.units).or op_eq) os_eq (ie_int)) (iss_one (is_set 4 S.nd (ie_items rfl Z.sorted Z.dict (ie_add (ie_v 4) (ie_lst (ia_cons (ie_tup (ia_cons (ie_callX 0 h_take2 (hr.mono (by decide)) (ia_cons (ie_v 1) (ia_nil))) (ia_cons (ie_callX 0 h_amount2 (hr.mono (by decide)) (ia_nil)) (ia_nil)))) (ia_nil)))) (ho := rfl)))) (iss_nil))
  (iss_one (is_ret (ie_tup (ia_cons (ie_m 4) (ia_cons (ie_m 5) (ia_nil))))))))))))
theorem has_deed2 {f : Addr} {fd : FuncData} (Z : Bl P base mg) (T : Cs K mg) (F : Fun K "_law_deed" "_law_deed" (topS 18) f fd) (hm : mg "_law_deed" = some (.ref f)) (h_take2 : Has P w K mg base 36 "_law_take" 2 m_take2) (h_amount2 : Has P w K mg base 37 "_law_amount" 1 m_amount2) (h_side2 : Has P w K mg base 38 "_law_side" 2 m_side2) : Has P w K mg base 39 "_law_deed" 2 m_deed2 :=
  has_of F fnM_len (fok_deed2 Z T F h_take2 h_amount2 h_side2) hm (F.binds (ps := ["_law_pool_here", "_law_many"]) fun _ _ _ _ _ _ us hl => match us, hl with | [_, _], _ => rfl)
def n_net2c : List Str := ["_law_script", "_law_at", "_law_most", "_law_pool_here", "_law_many", "_law_k"]
theorem sc_net2c : FnScope ["_law_script", "_law_at", "_law_most", "_law_pool_here", "_law_many", "_law_k"] ["_law_script", "_law_at", "_law_most"] (defScope (topS 19)) := ⟨rfl, rfl, rfl, by decide +kernel, rfl, by decide +kernel, by decide +kernel⟩
theorem fok_net2c {f : Addr} {fd : FuncData} (Z : Bl P base mg) (T : Cs K mg) (F : Fun K "_law_net" "_law_net" (topS 19) f fd) (h_law_pool : Has P w K mg base 36 "_law_pool" 2 m_law_pool) (h_take2 : Has P w K mg base 36 "_law_take" 2 m_take2) (h_deed2 : Has P w K mg base 39 "_law_deed" 2 m_deed2) :
    FnOk P w K mg base CX0 40 f fd ["_law_script", "_law_at", "_law_most"] (spI K 3 m_net2c) :=
  have S := sc_net2c
  fn_def (io := false) F S rfl (by decide) fun cdv A outer s H E hr =>
  iss_cons (is_set 3 S.nd (ie_call h_law_pool (hr.mono (by decide)) (ia_cons (ie_v 0) (ia_cons (ie_v 1) (ia_nil)))))
  (iss_cons (is_set 4 S.nd (ie_add (ie_int) (ie_callX 3 h_take2 (hr.mono (by decide)) (ia_cons (ie_v 2) (ia_nil)))))
  (iss_one (is_ret (ie_tup (ia_cons (ie_v 4) (ia_cons (ie_lc [("_law_k", 5)] n_net2c (defScope (topS 19)) rfl S.nd (ii_R1 Z.range (ia_cons (ie_callX 3 h_take2 (hr.mono (by decide)) (ia_cons (ie_int) (ia_nil))) (ia_nil))) (kp_n) (fun _ => ig_name 5 S.nd) (fun _ => its_nil) (fun _ => ie_call h_deed2 (hr.mono (by decide)) (ia_cons (ie_call h_law_pool (hr.mono (by decide)) (ia_cons (ie_v 0) (ia_cons (ie_add (ie_add (ie_v 1) (ie_int)) (ie_v 5)) (ia_nil)))) (ia_cons (ie_v 4) (ia_nil))))) (ia_nil)))))))
theorem has_net2c {f : Addr} {fd : FuncData} (Z : Bl P base mg) (T : Cs K mg) (F : Fun K "_law_net" "_law_net" (topS 19) f fd) (hm : mg "_law_net" = some (.ref f)) (h_law_pool : Has P w K mg base 36 "_law_pool" 2 m_law_pool) (h_take2 : Has P w K mg base 36 "_law_take" 2 m_take2) (h_deed2 : Has P w K mg base 39 "_law_deed" 2 m_deed2) : Has P w K mg base 40 "_law_net" 3 m_net2c :=
  has_of F fnM_len (fok_net2c Z T F h_law_pool h_take2 h_deed2) hm (F.binds (ps := ["_law_script", "_law_at", "_law_most"]) fun _ _ _ _ _ _ us hl => match us, hl with | [_, _, _], _ => rfl)
theorem sc_stand2 : FnScope ["_law_pool_here", "_law_many", "_law_wet", "_law_found", "_law_place", "_law_much"] ["_law_pool_here", "_law_many"] (defScope (topS 20)) := ⟨rfl, rfl, rfl, by decide +kernel, rfl, by decide +kernel, by decide +kernel⟩
theorem fok_stand2 {f : Addr} {fd : FuncData} (Z : Bl P base mg) (T : Cs K mg) (F : Fun K "_law_stand" "_law_stand" (topS 20) f fd) (h_take2 : Has P w K mg base 36 "_law_take" 2 m_take2) (h_amount2 : Has P w K mg base 37 "_law_amount" 1 m_amount2) :
    FnOk P w K mg base CX0 38 f fd ["_law_pool_here", "_law_many"] (spI K 2 m_stand2) :=
  have S := sc_stand2
  fn_def (io := true) F S rfl (by decide) fun cdv A outer s H E hr =>
  iss_cons (is_set 2 S.nd (ie_callX 0 h_take2 (hr.mono (by decide)) (ia_cons (ie_int) (ia_nil))))
  (iss_cons (is_set 3 S.nd (ie_lst (ia_nil)))
  (iss_cons (is_for PassesOwn.never rfl (ii_R1 Z.range (ia_cons (ie_v 1) (ia_nil))) (ig_name 4 S.nd)
  (iss_cons (is_set 5 S.nd (ie_callX 0 h_amount2 (hr.mono (by decide)) (ia_nil)))
  (iss_one (is_app 3 (ie_ix (ie_lst (ia_cons (ie_tup (ia_cons (ie_int) (ia_cons (ie_int) (ia_nil)))) (ia_cons (ie_v 5) (ia_nil)))) (ie_intc Z.int (ie_lt (ie_callX 0 h_take2 (hr.mono (by decide)) (ia_cons (ie_int) (ia_nil))) (ie_v 2))))))))
  (iss_one (is_ret (ie_m 3)))))
theorem has_stand2 {f : Addr} {fd : FuncData} (Z : Bl P base mg) (T : Cs K mg) (F : Fun K "_law_stand" "_law_stand" (topS 20) f fd) (hm : mg "_law_stand" = some (.ref f)) (h_take2 : Has P w K mg base 36 "_law_take" 2 m_take2) (h_amount2 : Has P w K mg base 37 "_law_amount" 1 m_amount2) : Has P w K mg base 38 "_law_stand" 2 m_stand2 :=
  has_of F fnM_len (fok_stand2 Z T F h_take2 h_amount2) hm (F.binds (ps := ["_law_pool_here", "_law_many"]) fun _ _ _ _ _ _ us hl => match us, hl with | [_, _], _ => rfl)
def n_law_some : List Str := ["_law_pool_here", "_law_count", "_law_way", "_law_k"]
theorem sc_law_some : FnScope ["_law_pool_here", "_law_count", "_law_way", "_law_k"] ["_law_pool_here", "_law_count"] (defScope (topS 21)) := ⟨rfl, rfl, rfl, by decide +kernel, rfl, by decide +kernel, by decide +kernel⟩
theorem fok_law_some {f : Addr} {fd : FuncData} (Z : Bl P base mg) (T : Cs K mg) (F : Fun K "_law_some" "_law_some" (topS 21) f fd) (h_take2 : Has P w K mg base 36 "_law_take" 2 m_take2) :
    FnOk P w K mg base CX0 37 f fd ["_law_pool_here", "_law_count"] (spI K 2 m_law_some) :=
  have S := sc_law_some
  fn_def (io := true) F S rfl (by decide) fun cdv A outer s H E hr =>
  iss_cons (is_set 2 S.nd (ie_callX 0 h_take2 (hr.mono (by decide)) (ia_cons (ie_int) (ia_nil))))
  (iss_cons (is_if (ib_cmpL 2 ((op_eqD hr.units).or op_eq) os_eq (ie_int)) (iss_one (is_ret (ie_lr1 rfl Z.list Z.range (ie_v 1)))) (iss_nil))
  (iss_one (is_ret (ie_lc [("_law_k", 3)] n_law_some (defScope (topS 21)) rfl S.nd (ii_R1 Z.range (ia_cons (ie_v 1) (ia_nil))) (kp_n) (fun _ => ig_name 3 S.nd) (fun _ => its_one (ib_lt (ie_callX 0 h_take2 (hr.mono (by decide)) (ia_cons (ie_int) (ia_nil))) (ie_v 2))) (fun _ => ie_v 3)))))
theorem has_law_some {f : Addr} {fd : FuncData} (Z : Bl P base mg) (T : Cs K mg) (F : Fun K "_law_some" "_law_some" (topS 21) f fd) (hm : mg "_law_some" = some (.ref f)) (h_take2 : Has P w K mg base 36 "_law_take" 2 m_take2) : Has P w K mg base 37 "_law_some" 2 m_law_some :=
  has_of F fnM_len (fok_law_some Z T F h_take2) hm (F.binds (ps := ["_law_pool_here", "_law_count"]) fun _ _ _ _ _ _ us hl => match us, hl with | [_, _], _ => rfl)
def n_wet_in : List Str := ["stand", "place", "much"]
theorem sc_wet_in : FnScope ["stand", "place", "much"] ["stand"] (defScope (topS 1)) := ⟨rfl, rfl, rfl, by decide +kernel, rfl, by decide +kernel, by decide +kernel⟩
theorem fok_wet_in {f : Addr} {fd : FuncData} (Z : Bl P base mg) (T : Cs K mg) (F : Fun K "wet_in" "wet_in" (topS 1) f fd)  :
    FnOk P w K mg base CX0 36 f fd ["stand"] (spI K 1 m_wet_in) :=
  have S := sc_wet_in
  fn_def (io := false) F S rfl (by decide) fun cdv A outer s H E hr =>
  iss_one (is_ret (ie_lc [("place", 1), ("much", 2)] n_wet_in (defScope (topS 1)) rfl S.nd (ii_E Z.enumerate (ia_cons (ie_v 0) (ia_nil))) (kp_t (kps_c kp_n (kps_c kp_n kps_n))) (fun _ => ig_tup rfl (igs_cons (ig_name 1 S.nd) (igs_cons (ig_name 2 S.nd) (igs_nil)))) (fun _ => its_one (ib_gt (ie_ixV 2 (ie_int)) (ie_int))) (fun _ => ie_v 1)))
theorem has_wet_in {f : Addr} {fd : FuncData} (Z : Bl P base mg) (T : Cs K mg) (F : Fun K "wet_in" "wet_in" (topS 1) f fd) (hm : mg "wet_in" = some (.ref f))  : Has P w K mg base 36 "wet_in" 1 m_wet_in :=
  has_of F fnM_len (fok_wet_in Z T F) hm (F.binds (ps := ["stand"]) fun _ _ _ _ _ _ us hl => match us, hl with | [_], _ => rfl)
def n_takes_from : List Str := ["net", "deed", "place", "amount"]
theorem sc_takes_from : FnScope ["net", "deed", "place", "amount"] ["net", "deed"] (defScope (topS 2)) := ⟨rfl, rfl, rfl, by decide +kernel, rfl, by decide +kernel, by decide +kernel⟩
theorem fok_takes_from {f : Addr} {fd : FuncData} (Z : Bl P base mg) (T : Cs K mg) (F : Fun K "takes_from" "takes_from" (topS 2) f fd)  :
    FnOk P w K mg base CX0 36 f fd ["net", "deed"] (spI K 2 m_takes_from) :=
  have S := sc_takes_from
  fn_def (io := false) F S rfl (by decide) fun cdv A outer s H E hr =>
  iss_one (is_ret (ie_lc [("place", 2), ("amount", 3)] n_takes_from (defScope (topS 2)) rfl S.nd (ii_L (ie_ix (ie_ix (ie_ixV 0 (ie_int)) (ie_v 1)) (ie_int))) (kp_t (kps_c kp_n (kps_c kp_n kps_n))) (fun _ => ig_tup rfl (igs_cons (ig_name 2 S.nd) (igs_cons (ig_name 3 S.nd) (igs_nil)))) (fun _ => its_nil) (fun _ => ie_v 2)))
theorem has_takes_from {f : Addr} {fd : FuncData} (Z : Bl P base mg) (T : Cs K mg) (F : Fun K "takes_from" "takes_from" (topS 2) f fd) (hm : mg "takes_from" = some (.ref f))  : Has P w K mg base 36 "takes_from" 2 m_takes_from :=
  has_of F fnM_len (fok_takes_from Z T F) hm (F.binds (ps := ["net", "deed"]) fun _ _ _ _ _ _ us hl => match us, hl with | [_, _], _ => rfl)
def n_gives_to : List Str := ["net", "deed", "place", "amount"]
theorem sc_gives_to : FnScope ["net", "deed", "place", "amount"] ["net", "deed"] (defScope (topS 3)) := ⟨rfl, rfl, rfl, by decide +kernel, rfl, by decide +kernel, by decide +kernel⟩
theorem fok_gives_to {f : Addr} {fd : FuncData} (Z : Bl P base mg) (T : Cs K mg) (F : Fun K "gives_to" "gives_to" (topS 3) f fd)  :
    FnOk P w K mg base CX0 36 f fd ["net", "deed"] (spI K 2 m_gives_to) :=
  have S := sc_gives_to
  fn_def (io := false) F S rfl (by decide) fun cdv A outer s H E hr =>
  iss_one (is_ret (ie_lc [("place", 2), ("amount", 3)] n_gives_to (defScope (topS 3)) rfl S.nd (ii_L (ie_ix (ie_ix (ie_ixV 0 (ie_int)) (ie_v 1)) (ie_int))) (kp_t (kps_c kp_n (kps_c kp_n kps_n))) (fun _ => ig_tup rfl (igs_cons (ig_name 2 S.nd) (igs_cons (ig_name 3 S.nd) (igs_nil)))) (fun _ => its_nil) (fun _ => ie_v 2)))
theorem has_gives_to {f : Addr} {fd : FuncData} (Z : Bl P base mg) (T : Cs K mg) (F : Fun K "gives_to" "gives_to" (topS 3) f fd) (hm : mg "gives_to" = some (.ref f))  : Has P w K mg base 36 "gives_to" 2 m_gives_to :=
  has_of F fnM_len (fok_gives_to Z T F) hm (F.binds (ps := ["net", "deed"]) fun _ _ _ _ _ _ us hl => match us, hl with | [_, _], _ => rfl)
def n_in_turn : List Str := ["net", "stand", "deeds", "wet", "found", "again", "deed", "place"]
theorem sc_in_turn : FnScope ["net", "stand", "deeds", "wet", "found", "again", "deed", "place"] ["net", "stand", "deeds"] (defScope (topS 5)) := ⟨rfl, rfl, rfl, by decide +kernel, rfl, by decide +kernel, by decide +kernel⟩
theorem fok_in_turn {f : Addr} {fd : FuncData} (Z : Bl P base mg) (T : Cs K mg) (F : Fun K "in_turn" "in_turn" (topS 5) f fd) (h_wet_in : Has P w K mg base 36 "wet_in" 1 m_wet_in) (h_takes_from : Has P w K mg base 36 "takes_from" 2 m_takes_from) (h_gives_to : Has P w K mg base 36 "gives_to" 2 m_gives_to) :
    FnOk P w K mg base CX0 37 f fd ["net", "stand", "deeds"] (spI K 3 m_in_turn) :=
  have S := sc_in_turn
  fn_def (io := false) F S rfl (by decide) fun cdv A outer s H E hr =>
  iss_cons (is_set 3 S.nd (ie_call h_wet_in (hr.mono (by decide)) (ia_cons (ie_v 1) (ia_nil))))
  (iss_cons (is_set 4 S.nd (ie_lst (ia_nil)))
  (iss_cons (is_set 5 S.nd (ie_bl))
  (iss_cons (is_while PassesOwn.never (ib_val (ie_v 5)) (iss_cons (is_set 5 S.nd (ie_bl))
  (iss_one (is_for PassesOwn.never rfl (ii_L (ie_v 2)) (ig_name 6 S.nd)
  (iss_one (is_if (ib_w (iw_and (ib_cmpV (f := fNotIn) 4 op_notIn_seq (os_in true) (ie_v 6)) (iw_and1 (ib_val (ie_fn1 (cr_all rfl) cg_all (by decide +kernel) Z.all (ie_lc [("place", 7)] n_in_turn (defScope (topS 5)) rfl S.nd (ii_L (ie_call h_takes_from (hr.mono (by decide)) (ia_cons (ie_v 0) (ia_cons (ie_v 6) (ia_nil))))) (kp_n) (fun _ => ig_name 7 S.nd) (fun _ => its_nil) (fun _ => ie_cmpV (f := fIn) 3 op_in_seq (os_in false) (ie_v 7)))))))) (iss_cons (is_app 4 (ie_v 6))
  (iss_cons (is_set 3 S.nd (ie_add (ie_v 3) (ie_lc [("place", 7)] n_in_turn (defScope (topS 5)) rfl S.nd (ii_L (ie_call h_gives_to (hr.mono (by decide)) (ia_cons (ie_v 0) (ia_cons (ie_v 6) (ia_nil))))) (kp_n) (fun _ => ig_name 7 S.nd) (fun _ => its_one (ib_cmpV (f := fNotIn) 3 op_notIn_seq (os_in true) (ie_v 7))) (fun _ => ie_v 7))))
  (iss_one (is_set 5 S.nd (ie_bl))))) (iss_nil)))))))
  (iss_one (is_ret (ie_tup (ia_cons (ie_m 4) (ia_cons (ie_m 3) (ia_nil)))))))))
theorem has_in_turn {f : Addr} {fd : FuncData} (Z : Bl P base mg) (T : Cs K mg) (F : Fun K "in_turn" "in_turn" (topS 5) f fd) (hm : mg "in_turn" = some (.ref f)) (h_wet_in : Has P w K mg base 36 "wet_in" 1 m_wet_in) (h_takes_from : Has P w K mg base 36 "takes_from" 2 m_takes_from) (h_gives_to : Has P w K mg base 36 "gives_to" 2 m_gives_to) : Has P w K mg base 37 "in_turn" 3 m_in_turn :=
  has_of F fnM_len (fok_in_turn Z T F h_wet_in h_takes_from h_gives_to) hm (F.binds (ps := ["net", "stand", "deeds"]) fun _ _ _ _ _ _ us hl => match us, hl with | [_, _, _], _ => rfl)
theorem sc_can_be : FnScope ["net", "stand", "deeds", "found", "wet"] ["net", "stand", "deeds"] (defScope (topS 6)) := ⟨rfl, rfl, rfl, by decide +kernel, rfl, by decide +kernel, by decide +kernel⟩
theorem fok_can_be {f : Addr} {fd : FuncData} (Z : Bl P base mg) (T : Cs K mg) (F : Fun K "can_be" "can_be" (topS 6) f fd) (h_in_turn : Has P w K mg base 37 "in_turn" 3 m_in_turn) :
    FnOk P w K mg base CX0 38 f fd ["net", "stand", "deeds"] (spI K 3 m_can_be) :=
  have S := sc_can_be
  fn_def (io := false) F S rfl (by decide) fun cdv A outer s H E hr =>
  iss_cons (is_asg (ie_call h_in_turn (hr.mono (by decide)) (ia_cons (ie_v 0) (ia_cons (ie_v 1) (ia_cons (ie_v 2) (ia_nil))))) (ig_tup rfl (igs_cons (ig_name 3 S.nd) (igs_cons (ig_name 4 S.nd) (igs_nil)))))
  (iss_one (is_ret (ie_tup (ia_cons (ie_fn1V 4 cr_sortedI cg_sort (by decide +kernel) Z.sorted) (ia_cons (ie_fn1V 3 cr_sortedI cg_sort (by decide +kernel) Z.sorted) (ia_nil))))))
theorem has_can_be {f : Addr} {fd : FuncData} (Z : Bl P base mg) (T : Cs K mg) (F : Fun K "can_be" "can_be" (topS 6) f fd) (hm : mg "can_be" = some (.ref f)) (h_in_turn : Has P w K mg base 37 "in_turn" 3 m_in_turn) : Has P w K mg base 38 "can_be" 3 m_can_be :=
  has_of F fnM_len (fok_can_be Z T F h_in_turn) hm (F.binds (ps := ["net", "stand", "deeds"]) fun _ _ _ _ _ _ us hl => match us, hl with | [_, _, _], _ => rfl)
theorem sc_law_order : FnScope ["_law_pool_here", "_law_many", "_law_found", "_law_k", "_law_at"] ["_law_pool_here", "_law_many"] (defScope (topS 22)) := ⟨rfl, rfl, rfl, by decide +kernel, rfl, by decide +kernel, by decide +kernel⟩
theorem fok_law_order {f : Addr} {fd : FuncData} (Z : Bl P base mg) (T : Cs K mg) (F : Fun K "_law_order" "_law_order" (topS 22) f fd) (h_take2 : Has P w K mg base 36 "_law_take" 2 m_take2) :
    FnOk P w K mg base CX0 37 f fd ["_law_pool_here", "_law_many"] (spI K 2 m_law_order) :=
  have S := sc_law_order
  fn_def (io := true) F S rfl (by decide) fun cdv A outer s H E hr =>
  iss_cons (is_set 2 S.nd (ie_lst (ia_nil)))
  (iss_cons (is_for PassesOwn.never rfl (ii_R1 Z.range (ia_cons (ie_v 1) (ia_nil))) (ig_name 3 S.nd)
  (iss_cons (is_set 4 S.nd (ie_callX 0 h_take2 (hr.mono (by decide)) (ia_cons (ie_add (ie_v 3) (ie_int)) (ia_nil))))
  (iss_one (is_set 2 S.nd (ie_add (ie_add (ie_slV 2 io_none (io_some (ie_v 4))) (ie_lst (ia_cons (ie_v 3) (ia_nil)))) (ie_slV 2 (io_some (ie_v 4)) io_none))))))
  (iss_one (is_ret (ie_m 2))))
theorem has_law_order {f : Addr} {fd : FuncData} (Z : Bl P base mg) (T : Cs K mg) (F : Fun K "_law_order" "_law_order" (topS 22) f fd) (hm : mg "_law_order" = some (.ref f)) (h_take2 : Has P w K mg base 36 "_law_take" 2 m_take2) : Has P w K mg base 37 "_law_order" 2 m_law_order :=
  has_of F fnM_len (fok_law_order Z T F h_take2) hm (F.binds (ps := ["_law_pool_here", "_law_many"]) fun _ _ _ _ _ _ us hl => match us, hl with | [_, _], _ => rfl)
def n_law_moved : List Str := ["_law_net_here", "_law_places", "_law_deeds", "_law_rows", "_law_number", "_law_takes", "_law_gives", "_law_sides", "_law_side_here", "_law_place", "_law_amount_here"]
theorem sc_law_moved : FnScope ["_law_net_here", "_law_places", "_law_deeds", "_law_rows", "_law_number", "_law_takes", "_law_gives", "_law_sides", "_law_side_here", "_law_place", "_law_amount_here"] ["_law_net_here", "_law_places", "_law_deeds"] (defScope (topS 23)) := ⟨rfl, rfl, rfl, by decide +kernel, rfl, by decide +kernel, by decide +kernel⟩
theorem fok_law_moved {f : Addr} {fd : FuncData} (Z : Bl P base mg) (T : Cs K mg) (F : Fun K "_law_moved" "_law_moved" (topS 23) f fd)  :
    FnOk P w K mg base CX0 36 f fd ["_law_net_here", "_law_places", "_law_deeds"] (spI K 3 m_law_moved) :=
  have S := sc_law_moved
  fn_def (io := false) F S rfl (by decide) fun cdv A outer s H E hr =>
  iss_cons (is_set 3 S.nd (ie_mul (ie_lst (ia_cons (ie_non) (ia_nil))) (ie_lenV 2 Z.len)))
  (iss_cons (is_for PassesOwn.never rfl (ii_E Z.enumerate (ia_cons (ie_ixV 0 (ie_int)) (ia_nil))) (ig_tup rfl (igs_cons (ig_name 4 S.nd) (igs_cons (ig_tup rfl (igs_cons (ig_name 5 S.nd) (igs_cons (ig_name 6 S.nd) (igs_nil)))) (igs_nil))))
  (iss_cons (is_setLc 7 [("_law_side_here", 8)] n_law_moved (defScope (topS 23)) rfl S.nd (ii_L (ie_lst (ia_cons (ie_v 5) (ia_cons (ie_v 6) (ia_nil))))) (kp_n) (fun _ => ig_name 8 S.nd) (fun _ => its_nil) (fun _ => ie_fn1 cr_sortT cg_sortT (by decide +kernel) Z.sorted (ie_lcB [("_law_place", 9), ("_law_amount_here", 10)] n_law_moved rfl S.nd (ii_L (ie_v 8)) (kp_t (kps_c kp_n (kps_c kp_n kps_n))) (fun _ => ig_tup rfl (igs_cons (ig_name 9 S.nd) (igs_cons (ig_name 10 S.nd) (igs_nil)))) (fun _ => its_nil) (fun _ => ie_tup (ia_cons (ie_ixV 1 (ie_v 9)) (ia_cons (ie_v 10) (ia_nil)))))))
  (iss_one (is_setIx 3 (ie_tup (ia_cons (ie_ixV 7 (ie_int)) (ia_cons (ie_ixV 7 (ie_int)) (ia_nil)))) (ie_ixV 2 (ie_v 4))))))
  (iss_one (is_ret (ie_tup (ia_cons (ie_ixV 0 (ie_int)) (ia_cons (ie_m 3) (ia_nil)))))))
theorem has_law_moved {f : Addr} {fd : FuncData} (Z : Bl P base mg) (T : Cs K mg) (F : Fun K "_law_moved" "_law_moved" (topS 23) f fd) (hm : mg "_law_moved" = some (.ref f))  : Has P w K mg base 36 "_law_moved" 3 m_law_moved :=
  has_of F fnM_len (fok_law_moved Z T F) hm (F.binds (ps := ["_law_net_here", "_law_places", "_law_deeds"]) fun _ _ _ _ _ _ us hl => match us, hl with | [_, _, _], _ => rfl)
def n_have_some : List Str := ["places", "others", "place"]
theorem sc_have_some : FnScope ["places", "others", "place"] ["places", "others"] (defScope (topS 8)) := ⟨rfl, rfl, rfl, by decide +kernel, rfl, by decide +kernel, by decide +kernel⟩
theorem fok_have_some {f : Addr} {fd : FuncData} (Z : Bl P base mg) (T : Cs K mg) (F : Fun K "have_some" "have_some" (topS 8) f fd)  :
    FnOk P w K mg base CX0 36 f fd ["places", "others"] (spI K 2 m_have_some) :=
  have S := sc_have_some
  fn_def (io := false) F S rfl (by decide) fun cdv A outer s H E hr =>
  iss_one (is_ret (ie_gt (ie_len Z.len (ie_lc [("place", 2)] n_have_some (defScope (topS 8)) rfl S.nd (ii_L (ie_v 0)) (kp_n) (fun _ => ig_name 2 S.nd) (fun _ => its_one (ib_cmpV (f := fIn) 1 op_in_seq (os_in false) (ie_v 2))) (fun _ => ie_v 2))) (ie_int)))
theorem has_have_some {f : Addr} {fd : FuncData} (Z : Bl P base mg) (T : Cs K mg) (F : Fun K "have_some" "have_some" (topS 8) f fd) (hm : mg "have_some" = some (.ref f))  : Has P w K mg base 36 "have_some" 2 m_have_some :=
  has_of F fnM_len (fok_have_some Z T F) hm (F.binds (ps := ["places", "others"]) fun _ _ _ _ _ _ us hl => match us, hl with | [_, _], _ => rfl)
def n_cut_down : List Str := ["rows", "places", "found", "size", "here", "there", "place"]
theorem sc_cut_down : FnScope ["rows", "places", "found", "size", "here", "there", "place"] ["rows", "places"] (defScope (topS 9)) := ⟨rfl, rfl, rfl, by decide +kernel, rfl, by decide +kernel, by decide +kernel⟩
theorem fok_cut_down {f : Addr} {fd : FuncData} (Z : Bl P base mg) (T : Cs K mg) (F : Fun K "cut_down" "cut_down" (topS 9) f fd) (h_have_some : Has P w K mg base 36 "have_some" 2 m_have_some) :
    FnOk P w K mg base CX0 37 f fd ["rows", "places"] (spI K 2 m_cut_down) :=
  have S := sc_cut_down
  fn_def (io := false) F S rfl (by decide) fun cdv A outer s H E hr =>
  iss_cons (is_set 2 S.nd (ie_ty1V 1 call_list_of cg_list (by decide +kernel) Z.list))
  (iss_cons (is_set 3 S.nd (ie_neg (ie_int)))
  (iss_cons (is_while PassesOwn.never (ib_cmpL 3 ((op_neD hr.units).or op_ne) os_ne (ie_lenV 2 Z.len)) (iss_cons (is_set 3 S.nd (ie_lenV 2 Z.len))
  (iss_one (is_for PassesOwn.never rfl (ii_L (ie_v 0)) (ig_tup rfl (igs_cons (ig_name 4 S.nd) (igs_cons (ig_name 5 S.nd) (igs_nil))))
  (iss_one (is_if (ib_not (ib_val (ie_call h_have_some (hr.mono (by decide)) (ia_cons (ie_v 5) (ia_cons (ie_v 2) (ia_nil)))))) (iss_one (is_setLc 2 [("place", 6)] n_cut_down (defScope (topS 9)) rfl S.nd (ii_L (ie_v 2)) (kp_n) (fun _ => ig_name 6 S.nd) (fun _ => its_one (ib_cmpV (f := fNotIn) 4 op_notIn_seq (os_in true) (ie_v 6))) (fun _ => ie_v 6))) (iss_nil)))))))
  (iss_one (is_ret (ie_m 2)))))
theorem has_cut_down {f : Addr} {fd : FuncData} (Z : Bl P base mg) (T : Cs K mg) (F : Fun K "cut_down" "cut_down" (topS 9) f fd) (hm : mg "cut_down" = some (.ref f)) (h_have_some : Has P w K mg base 36 "have_some" 2 m_have_some) : Has P w K mg base 37 "cut_down" 2 m_cut_down :=
  has_of F fnM_len (fok_cut_down Z T F h_have_some) hm (F.binds (ps := ["rows", "places"]) fun _ _ _ _ _ _ us hl => match us, hl with | [_, _], _ => rfl)
def n_stays_dry : List Str := ["net", "places", "deed"]
theorem sc_stays_dry : FnScope ["net", "places", "deed"] ["net", "places"] (defScope (topS 10)) := ⟨rfl, rfl, rfl, by decide +kernel, rfl, by decide +kernel, by decide +kernel⟩
theorem fok_stays_dry {f : Addr} {fd : FuncData} (Z : Bl P base mg) (T : Cs K mg) (F : Fun K "stays_dry" "stays_dry" (topS 10) f fd) (h_takes_from : Has P w K mg base 36 "takes_from" 2 m_takes_from) (h_gives_to : Has P w K mg base 36 "gives_to" 2 m_gives_to) (h_cut_down : Has P w K mg base 37 "cut_down" 2 m_cut_down) :
    FnOk P w K mg base CX0 38 f fd ["net", "places"] (spI K 2 m_stays_dry) :=
  have S := sc_stays_dry
  fn_def (io := false) F S rfl (by decide) fun cdv A outer s H E hr =>
  iss_one (is_ret (ie_call h_cut_down (hr.mono (by decide)) (ia_cons (ie_lc [("deed", 2)] n_stays_dry (defScope (topS 10)) rfl S.nd (ii_R1 Z.range (ia_cons (ie_len Z.len (ie_ixV 0 (ie_int))) (ia_nil))) (kp_n) (fun _ => ig_name 2 S.nd) (fun _ => its_nil) (fun _ => ie_tup (ia_cons (ie_call h_gives_to (hr.mono (by decide)) (ia_cons (ie_v 0) (ia_cons (ie_v 2) (ia_nil)))) (ia_cons (ie_call h_takes_from (hr.mono (by decide)) (ia_cons (ie_v 0) (ia_cons (ie_v 2) (ia_nil)))) (ia_nil))))) (ia_cons (ie_v 1) (ia_nil)))))
theorem has_stays_dry {f : Addr} {fd : FuncData} (Z : Bl P base mg) (T : Cs K mg) (F : Fun K "stays_dry" "stays_dry" (topS 10) f fd) (hm : mg "stays_dry" = some (.ref f)) (h_takes_from : Has P w K mg base 36 "takes_from" 2 m_takes_from) (h_gives_to : Has P w K mg base 36 "gives_to" 2 m_gives_to) (h_cut_down : Has P w K mg base 37 "cut_down" 2 m_cut_down) : Has P w K mg base 38 "stays_dry" 2 m_stays_dry :=
  has_of F fnM_len (fok_stays_dry Z T F h_takes_from h_gives_to h_cut_down) hm (F.binds (ps := ["net", "places"]) fun _ _ _ _ _ _ us hl => match us, hl with | [_, _], _ => rfl)
def n_stays_wet : List Str := ["net", "places", "deed"]
theorem sc_stays_wet : FnScope ["net", "places", "deed"] ["net", "places"] (defScope (topS 11)) := ⟨rfl, rfl, rfl, by decide +kernel, rfl, by decide +kernel, by decide +kernel⟩
theorem fok_stays_wet {f : Addr} {fd : FuncData} (Z : Bl P base mg) (T : Cs K mg) (F : Fun K "stays_wet" "stays_wet" (topS 11) f fd) (h_takes_from : Has P w K mg base 36 "takes_from" 2 m_takes_from) (h_gives_to : Has P w K mg base 36 "gives_to" 2 m_gives_to) (h_cut_down : Has P w K mg base 37 "cut_down" 2 m_cut_down) :
    FnOk P w K mg base CX0 38 f fd ["net", "places"] (spI K 2 m_stays_wet) :=
  have S := sc_stays_wet
  fn_def (io := false) F S rfl (by decide) fun cdv A outer s H E hr =>
  iss_one (is_ret (ie_call h_cut_down (hr.mono (by decide)) (ia_cons (ie_lc [("deed", 2)] n_stays_wet (defScope (topS 11)) rfl S.nd (ii_R1 Z.range (ia_cons (ie_len Z.len (ie_ixV 0 (ie_int))) (ia_nil))) (kp_n) (fun _ => ig_name 2 S.nd) (fun _ => its_nil) (fun _ => ie_tup (ia_cons (ie_call h_takes_from (hr.mono (by decide)) (ia_cons (ie_v 0) (ia_cons (ie_v 2) (ia_nil)))) (ia_cons (ie_call h_gives_to (hr.mono (by decide)) (ia_cons (ie_v 0) (ia_cons (ie_v 2) (ia_nil)))) (ia_nil))))) (ia_cons (ie_v 1) (ia_nil)))))
theorem has_stays_wet {f : Addr} {fd : FuncData} (Z : Bl P base mg) (T : Cs K mg) (F : Fun K "stays_wet" "stays_wet" (topS 11) f fd) (hm : mg "stays_wet" = some (.ref f)) (h_takes_from : Has P w K mg base 36 "takes_from" 2 m_takes_from) (h_gives_to : Has P w K mg base 36 "gives_to" 2 m_gives_to) (h_cut_down : Has P w K mg base 37 "cut_down" 2 m_cut_down) : Has P w K mg base 38 "stays_wet" 2 m_stays_wet :=
  has_of F fnM_len (fok_stays_wet Z T F h_takes_from h_gives_to h_cut_down) hm (F.binds (ps := ["net", "places"]) fun _ _ _ _ _ _ us hl => match us, hl with | [_, _], _ => rfl)
def n_law_in_order : List Str := ["_law_net_here", "_law_pool_here", "_law_stand_here", "_law_deeds", "_law_told", "_law_places", "_law_numbers", "_law_moved_here", "_law_held", "_law_place", "_law_due", "_law_dry", "_law_there", "_law_asked", "_law_deed_here"]
theorem sc_law_in_order : FnScope ["_law_net_here", "_law_pool_here", "_law_stand_here", "_law_deeds", "_law_told", "_law_places", "_law_numbers", "_law_moved_here", "_law_held", "_law_place", "_law_due", "_law_dry", "_law_there", "_law_asked", "_law_deed_here"] ["_law_net_here", "_law_pool_here", "_law_stand_here", "_law_deeds", "_law_told"] (defScope (topS 26)) := ⟨rfl, rfl, rfl, by decide +kernel, rfl, by decide +kernel, by decide +kernel⟩
theorem fok_law_in_order {f : Addr} {fd : FuncData} (Z : Bl P base mg) (T : Cs K mg) (F : Fun K "_law_in_order" "_law_in_order" (topS 26) f fd) (h_can_be : Has P w K mg base 38 "can_be" 3 m_can_be) (h_law_order : Has P w K mg base 37 "_law_order" 2 m_law_order) (h_law_moved : Has P w K mg base 36 "_law_moved" 3 m_law_moved) (h_stays_dry : Has P w K mg base 38 "stays_dry" 2 m_stays_dry) (h_stays_wet : Has P w K mg base 38 "stays_wet" 2 m_stays_wet) :
    FnOk P w K mg base CX0 39 f fd ["_law_net_here", "_law_pool_here", "_law_stand_here", "_law_deeds", "_law_told"] (spJ K 5 1 m_law_in_order) :=
  have S := sc_law_in_order
  fn_defJ (q := 1) F S rfl fun cdv A outer s H E hr =>
  iss_cons (is_set 5 S.nd (ie_callX 1 h_law_order (hr.mono (by decide)) (ia_cons (ie_ixV 0 (ie_int)) (ia_nil))))
  (iss_cons (is_set 6 S.nd (ie_callX 1 h_law_order (hr.mono (by decide)) (ia_cons (ie_len Z.len (ie_ixV 0 (ie_int))) (ia_nil))))
  (iss_cons (is_set 7 S.nd (ie_call h_law_moved (hr.mono (by decide)) (ia_cons (ie_v 0) (ia_cons (ie_v 5) (ia_cons (ie_v 6) (ia_nil))))))
  (iss_cons (is_set 8 S.nd (ie_mul (ie_lst (ia_cons (ie_non) (ia_nil))) (ie_ixV 0 (ie_int))))
  (iss_cons (is_for PassesOwn.never rfl (ii_R1 Z.range (ia_cons (ie_ixV 0 (ie_int)) (ia_nil))) (ig_name 9 S.nd)
  (iss_one (is_setIx 8 (ie_ixV 2 (ie_v 9)) (ie_ixV 5 (ie_v 9)))))
  (iss_cons (is_set 10 S.nd (ie_tup (ia_cons (ie_fn1 cr_sortedI cg_sort (by decide +kernel) Z.sorted (ie_lc [("_law_place", 9)] n_law_in_order (defScope (topS 26)) rfl S.nd (ii_L (ie_ixV 4 (ie_int))) (kp_n) (fun _ => ig_name 9 S.nd) (fun _ => its_nil) (fun _ => ie_ixV 5 (ie_v 9)))) (ia_cons (ie_fn1 cr_sortedI cg_sort (by decide +kernel) Z.sorted (ie_lc [("_law_deed_here", 14)] n_law_in_order (defScope (topS 26)) rfl S.nd (ii_L (ie_ixV 4 (ie_int))) (kp_n) (fun _ => ig_name 14 S.nd) (fun _ => its_nil) (fun _ => ie_ixV 6 (ie_v 14)))) (ia_nil)))))
  (iss_cons (is_if (ib_cmpV 10 ((op_neD hr.units).or op_ne) os_ne (ie_call h_can_be (hr.mono (by decide)) (ia_cons (ie_v 7) (ia_cons (ie_v 8) (ia_cons (ie_fn1 cr_sortedI cg_sort (by decide +kernel) Z.sorted (ie_lc [("_law_deed_here", 14)] n_law_in_order (defScope (topS 26)) rfl S.nd (ii_L (ie_v 3)) (kp_n) (fun _ => ig_name 14 S.nd) (fun _ => its_nil) (fun _ => ie_ixV 6 (ie_v 14)))) (ia_nil)))))) (iss_one (is_ret (ie_bl))) (iss_nil))
  (iss_cons (is_setLc 11 [("_law_place", 9)] n_law_in_order (defScope (topS 26)) rfl S.nd (ii_R1 Z.range (ia_cons (ie_ixV 0 (ie_int)) (ia_nil))) (kp_n) (fun _ => ig_name 9 S.nd) (fun _ => its_one (ib_eq hr.units (ie_ix (ie_ixV 2 (ie_v 9)) (ie_int)) (ie_int))) (fun _ => ie_v 9))
  (iss_cons (is_set 12 S.nd (ie_fn1 cr_sortedI cg_sort (by decide +kernel) Z.sorted (ie_lc [("_law_place", 9)] n_law_in_order (defScope (topS 26)) rfl S.nd (ii_L (ie_v 11)) (kp_n) (fun _ => ig_name 9 S.nd) (fun _ => its_nil) (fun _ => ie_ixV 5 (ie_v 9)))))
  (iss_cons (is_for PassesOwn.never rfl (ii_L (ie_lst (ia_cons (ie_fn T.fa_stays_dry) (ia_cons (ie_fn T.fa_stays_wet) (ia_nil))))) (ig_name 13 S.nd) (iss_one (is_if (ib_ne hr.units (ie_callV 13 T.fa_stays_dry T.fa_stays_wet h_stays_dry h_stays_wet (hr.mono (by decide)) (hr.mono (by decide)) (ia_cons (ie_v 7) (ia_cons (ie_v 12) (ia_nil)))) (ie_fn1 cr_sortedI cg_sort (by decide +kernel) Z.sorted (ie_lc [("_law_place", 9)] n_law_in_order (defScope (topS 26)) rfl S.nd (ii_L (ie_callV 13 T.fa_stays_dry T.fa_stays_wet h_stays_dry h_stays_wet (hr.mono (by decide)) (hr.mono (by decide)) (ia_cons (ie_v 0) (ia_cons (ie_v 11) (ia_nil))))) (kp_n) (fun _ => ig_name 9 S.nd) (fun _ => its_nil) (fun _ => ie_ixV 5 (ie_v 9))))) (iss_one (is_ret (ie_bl))) (iss_nil))))
  (iss_one (is_ret (ie_bl))))))))))))
theorem has_law_in_order {f : Addr} {fd : FuncData} (Z : Bl P base mg) (T : Cs K mg) (F : Fun K "_law_in_order" "_law_in_order" (topS 26) f fd) (hm : mg "_law_in_order" = some (.ref f)) (h_can_be : Has P w K mg base 38 "can_be" 3 m_can_be) (h_law_order : Has P w K mg base 37 "_law_order" 2 m_law_order) (h_law_moved : Has P w K mg base 36 "_law_moved" 3 m_law_moved) (h_stays_dry : Has P w K mg base 38 "stays_dry" 2 m_stays_dry) (h_stays_wet : Has P w K mg base 38 "stays_wet" 2 m_stays_wet) : HasJ P w K mg base 39 "_law_in_order" 5 1 m_law_in_order :=
  has_ofJ F fnJ_len (fok_law_in_order Z T F h_can_be h_law_order h_law_moved h_stays_dry h_stays_wet) hm (F.binds (ps := ["_law_net_here", "_law_pool_here", "_law_stand_here", "_law_deeds", "_law_told"]) fun _ _ _ _ _ _ us hl => match us, hl with | [_, _, _, _, _], _ => rfl)
def n_law_other : List Str := ["_law_pool_here", "_law_net_here", "_law_rows", "_law_takes", "_law_gives", "_law_sides", "_law_side_here", "_law_place", "_law_amount_here"]
theorem sc_law_other : FnScope ["_law_pool_here", "_law_net_here", "_law_rows", "_law_takes", "_law_gives", "_law_sides", "_law_side_here", "_law_place", "_law_amount_here"] ["_law_pool_here", "_law_net_here"] (defScope (topS 24)) := ⟨rfl, rfl, rfl, by decide +kernel, rfl, by decide +kernel, by decide +kernel⟩
theorem fok_law_other {f : Addr} {fd : FuncData} (Z : Bl P base mg) (T : Cs K mg) (F : Fun K "_law_other" "_law_other" (topS 24) f fd) (h_amount2 : Has P w K mg base 37 "_law_amount" 1 m_amount2) :
    FnOk P w K mg base CX0 38 f fd ["_law_pool_here", "_law_net_here"] (spI K 2 m_law_other) :=
  have S := sc_law_other
  fn_def (io := true) F S rfl (by decide) fun cdv A outer s H E hr =>
  iss_cons (is_set 2 S.nd (ie_lst (ia_nil)))
  (iss_cons (is_for PassesOwn.never rfl (ii_L (ie_ixV 1 (ie_int))) (ig_tup rfl (igs_cons (ig_name 3 S.nd) (igs_cons (ig_name 4 S.nd) (igs_nil))))
  (iss_cons (is_setLc 5 [("_law_side_here", 6)] n_law_other (defScope (topS 24)) rfl S.nd (ii_L (ie_lst (ia_cons (ie_v 3) (ia_cons (ie_v 4) (ia_nil))))) (kp_n) (fun _ => ig_name 6 S.nd) (fun _ => its_nil) (fun _ => ie_lcB [("_law_place", 7), ("_law_amount_here", 8)] n_law_other rfl S.nd (ii_L (ie_v 6)) (kp_t (kps_c kp_n (kps_c kp_n kps_n))) (fun _ => ig_tup rfl (igs_cons (ig_name 7 S.nd) (igs_cons (ig_name 8 S.nd) (igs_nil)))) (fun _ => its_nil) (fun _ => ie_tup (ia_cons (ie_v 7) (ia_cons (ie_callX 0 h_amount2 (hr.mono (by decide)) (ia_nil)) (ia_nil))))))
  (iss_one (is_app 2 (ie_tup (ia_cons (ie_ixV 5 (ie_int)) (ia_cons (ie_ixV 5 (ie_int)) (ia_nil))))))))
  (iss_one (is_ret (ie_tup (ia_cons (ie_ixV 1 (ie_int)) (ia_cons (ie_m 2) (ia_nil)))))))
theorem has_law_other {f : Addr} {fd : FuncData} (Z : Bl P base mg) (T : Cs K mg) (F : Fun K "_law_other" "_law_other" (topS 24) f fd) (hm : mg "_law_other" = some (.ref f)) (h_amount2 : Has P w K mg base 37 "_law_amount" 1 m_amount2) : Has P w K mg base 38 "_law_other" 2 m_law_other :=
  has_of F fnM_len (fok_law_other Z T F h_amount2) hm (F.binds (ps := ["_law_pool_here", "_law_net_here"]) fun _ _ _ _ _ _ us hl => match us, hl with | [_, _], _ => rfl)
theorem sc_law_other_stand : FnScope ["_law_pool_here", "_law_stand_here", "_law_found", "_law_held", "_law_much"] ["_law_pool_here", "_law_stand_here"] (defScope (topS 25)) := ⟨rfl, rfl, rfl, by decide +kernel, rfl, by decide +kernel, by decide +kernel⟩
theorem fok_law_other_stand {f : Addr} {fd : FuncData} (Z : Bl P base mg) (T : Cs K mg) (F : Fun K "_law_other_stand" "_law_other_stand" (topS 25) f fd) (h_amount2 : Has P w K mg base 37 "_law_amount" 1 m_amount2) :
    FnOk P w K mg base CX0 38 f fd ["_law_pool_here", "_law_stand_here"] (spI K 2 m_law_other_stand) :=
  have S := sc_law_other_stand
  fn_def (io := true) F S rfl (by decide) fun cdv A outer s H E hr =>
  iss_cons (is_set 2 S.nd (ie_lst (ia_nil)))
  (iss_cons (is_for PassesOwn.never rfl (ii_L (ie_v 1)) (ig_name 3 S.nd)
  (iss_cons (is_set 4 S.nd (ie_callX 0 h_amount2 (hr.mono (by decide)) (ia_nil)))
  (iss_one (is_app 2 (ie_ix (ie_lst (ia_cons (ie_tup (ia_cons (ie_int) (ia_cons (ie_int) (ia_nil)))) (ia_cons (ie_v 4) (ia_nil)))) (ie_intc Z.int (ie_gt (ie_ixV 3 (ie_int)) (ie_int))))))))
  (iss_one (is_ret (ie_m 2))))
theorem has_law_other_stand {f : Addr} {fd : FuncData} (Z : Bl P base mg) (T : Cs K mg) (F : Fun K "_law_other_stand" "_law_other_stand" (topS 25) f fd) (hm : mg "_law_other_stand" = some (.ref f)) (h_amount2 : Has P w K mg base 37 "_law_amount" 1 m_amount2) : Has P w K mg base 38 "_law_other_stand" 2 m_law_other_stand :=
  has_of F fnM_len (fok_law_other_stand Z T F h_amount2) hm (F.binds (ps := ["_law_pool_here", "_law_stand_here"]) fun _ _ _ _ _ _ us hl => match us, hl with | [_, _], _ => rfl)
def n_law_amounts : List Str := ["_law_net_here", "_law_pool_here", "_law_stand_here", "_law_deeds", "_law_told", "_law_other_here", "_law_dry", "_law_place", "_law_asked"]
theorem sc_law_amounts : FnScope ["_law_net_here", "_law_pool_here", "_law_stand_here", "_law_deeds", "_law_told", "_law_other_here", "_law_dry", "_law_place", "_law_asked"] ["_law_net_here", "_law_pool_here", "_law_stand_here", "_law_deeds", "_law_told"] (defScope (topS 27)) := ⟨rfl, rfl, rfl, by decide +kernel, rfl, by decide +kernel, by decide +kernel⟩
theorem fok_law_amounts {f : Addr} {fd : FuncData} (Z : Bl P base mg) (T : Cs K mg) (F : Fun K "_law_amounts" "_law_amounts" (topS 27) f fd) (h_can_be : Has P w K mg base 38 "can_be" 3 m_can_be) (h_stays_dry : Has P w K mg base 38 "stays_dry" 2 m_stays_dry) (h_stays_wet : Has P w K mg base 38 "stays_wet" 2 m_stays_wet) (h_law_other : Has P w K mg base 38 "_law_other" 2 m_law_other) (h_law_other_stand : Has P w K mg base 38 "_law_other_stand" 2 m_law_other_stand) :
    FnOk P w K mg base CX0 39 f fd ["_law_net_here", "_law_pool_here", "_law_stand_here", "_law_deeds", "_law_told"] (spJ K 5 1 m_law_amounts) :=
  have S := sc_law_amounts
  fn_defJ (q := 1) F S rfl fun cdv A outer s H E hr =>
  iss_cons (is_set 5 S.nd (ie_callX 1 h_law_other (hr.mono (by decide)) (ia_cons (ie_v 0) (ia_nil))))
  (iss_cons (is_if (ib_cmpV 4 ((op_neD hr.units).or op_ne) os_ne (ie_call h_can_be (hr.mono (by decide)) (ia_cons (ie_v 5) (ia_cons (ie_callX 1 h_law_other_stand (hr.mono (by decide)) (ia_cons (ie_v 2) (ia_nil))) (ia_cons (ie_v 3) (ia_nil)))))) (iss_one (is_ret (ie_bl))) (iss_nil))
  (iss_cons (is_set 6 S.nd (ie_lc [("_law_place", 7)] n_law_amounts (defScope (topS 27)) rfl S.nd (ii_R1 Z.range (ia_cons (ie_ixV 0 (ie_int)) (ia_nil))) (kp_n) (fun _ => ig_name 7 S.nd) (fun _ => its_one (ib_eq hr.units (ie_ix (ie_ixV 2 (ie_v 7)) (ie_int)) (ie_int))) (fun _ => ie_v 7)))
  (iss_one (is_ret (ie_eq hr.units (ie_lc [("_law_asked", 8)] n_law_amounts (defScope (topS 27)) rfl S.nd (ii_L (ie_lst (ia_cons (ie_fn T.fa_stays_dry) (ia_cons (ie_fn T.fa_stays_wet) (ia_nil))))) (kp_n) (fun _ => ig_name 8 S.nd) (fun _ => its_one (ib_ne hr.units (ie_callV 8 T.fa_stays_dry T.fa_stays_wet h_stays_dry h_stays_wet (hr.mono (by decide)) (hr.mono (by decide)) (ia_cons (ie_v 5) (ia_cons (ie_v 6) (ia_nil)))) (ie_callV 8 T.fa_stays_dry T.fa_stays_wet h_stays_dry h_stays_wet (hr.mono (by decide)) (hr.mono (by decide)) (ia_cons (ie_v 0) (ia_cons (ie_v 6) (ia_nil)))))) (fun _ => ie_v 8)) (ie_lst (ia_nil)))))))
theorem has_law_amounts {f : Addr} {fd : FuncData} (Z : Bl P base mg) (T : Cs K mg) (F : Fun K "_law_amounts" "_law_amounts" (topS 27) f fd) (hm : mg "_law_amounts" = some (.ref f)) (h_can_be : Has P w K mg base 38 "can_be" 3 m_can_be) (h_stays_dry : Has P w K mg base 38 "stays_dry" 2 m_stays_dry) (h_stays_wet : Has P w K mg base 38 "stays_wet" 2 m_stays_wet) (h_law_other : Has P w K mg base 38 "_law_other" 2 m_law_other) (h_law_other_stand : Has P w K mg base 38 "_law_other_stand" 2 m_law_other_stand) : HasJ P w K mg base 39 "_law_amounts" 5 1 m_law_amounts :=
  has_ofJ F fnJ_len (fok_law_amounts Z T F h_can_be h_stays_dry h_stays_wet h_law_other h_law_other_stand) hm (F.binds (ps := ["_law_net_here", "_law_pool_here", "_law_stand_here", "_law_deeds", "_law_told"]) fun _ _ _ _ _ _ us hl => match us, hl with | [_, _, _, _, _], _ => rfl)
def n_law_no_fewer : List Str := ["_law_net_here", "_law_one", "_law_two", "_law_deeds", "_law_told", "_law_both", "_law_found", "_law_some_here", "_law_k", "_law_held", "_law_more", "_law_number", "_law_place"]
theorem sc_law_no_fewer : FnScope ["_law_net_here", "_law_one", "_law_two", "_law_deeds", "_law_told", "_law_both", "_law_found", "_law_some_here", "_law_k", "_law_held", "_law_more", "_law_number", "_law_place"] ["_law_net_here", "_law_one", "_law_two", "_law_deeds", "_law_told"] (defScope (topS 28)) := ⟨rfl, rfl, rfl, by decide +kernel, rfl, by decide +kernel, by decide +kernel⟩
theorem fok_law_no_fewer {f : Addr} {fd : FuncData} (Z : Bl P base mg) (T : Cs K mg) (F : Fun K "_law_no_fewer" "_law_no_fewer" (topS 28) f fd) (h_can_be : Has P w K mg base 38 "can_be" 3 m_can_be) :
    FnOk P w K mg base CX0 39 f fd ["_law_net_here", "_law_one", "_law_two", "_law_deeds", "_law_told"] (spI K 5 m_law_no_fewer) :=
  have S := sc_law_no_fewer
  fn_def (io := false) F S rfl (by decide) fun cdv A outer s H E hr =>
  iss_cons (is_setLc 5 [("_law_held", 9), ("_law_more", 10)] n_law_no_fewer (defScope (topS 28)) rfl S.nd (ii_Z Z.zip (ia_cons (ie_v 1) (ia_cons (ie_v 2) (ia_nil)))) (kp_t (kps_c kp_n (kps_c kp_n kps_n))) (fun _ => ig_tup rfl (igs_cons (ig_name 9 S.nd) (igs_cons (ig_name 10 S.nd) (igs_nil)))) (fun _ => its_nil) (fun _ => ie_ix (ie_lst (ia_cons (ie_v 9) (ia_cons (ie_v 10) (ia_nil)))) (ie_intc Z.int (ie_eq hr.units (ie_ixV 9 (ie_int)) (ie_int)))))
  (iss_cons (is_set 6 S.nd (ie_call h_can_be (hr.mono (by decide)) (ia_cons (ie_v 0) (ia_cons (ie_v 5) (ia_cons (ie_v 3) (ia_nil))))))
  (iss_cons (is_for PassesOwn.never rfl (ii_L (ie_lst (ia_cons (ie_v 4) (ia_cons (ie_call h_can_be (hr.mono (by decide)) (ia_cons (ie_v 0) (ia_cons (ie_v 2) (ia_cons (ie_v 3) (ia_nil))))) (ia_nil))))) (ig_name 7 S.nd)
  (iss_one (is_for PassesOwn.never rfl (ii_R1 Z.range (ia_cons (ie_int) (ia_nil))) (ig_name 8 S.nd)
  (iss_one (is_if (ib_ne hr.units (ie_lc [("_law_number", 11)] n_law_no_fewer (defScope (topS 28)) rfl S.nd (ii_L (ie_ixV 7 (ie_v 8))) (kp_n) (fun _ => ig_name 11 S.nd) (fun _ => its_one (ib_cmp (f := fNotIn) op_notIn_seq (os_in true) (ie_v 11) (ie_ixV 6 (ie_v 8)))) (fun _ => ie_v 11)) (ie_lst (ia_nil))) (iss_one (is_ret (ie_bl))) (iss_nil))))))
  (iss_cons (is_set 6 S.nd (ie_call h_can_be (hr.mono (by decide)) (ia_cons (ie_v 0) (ia_cons (ie_v 1) (ia_cons (ie_lr1 rfl Z.list Z.range (ie_len Z.len (ie_ixV 0 (ie_int)))) (ia_nil))))))
  (iss_one (is_ret (ie_eq hr.units (ie_lc [("_law_place", 12)] n_law_no_fewer (defScope (topS 28)) rfl S.nd (ii_L (ie_ixV 4 (ie_int))) (kp_n) (fun _ => ig_name 12 S.nd) (fun _ => its_one (ib_cmp (f := fNotIn) op_notIn_seq (os_in true) (ie_v 12) (ie_ixV 6 (ie_int)))) (fun _ => ie_v 12)) (ie_lst (ia_nil))))))))
theorem has_law_no_fewer {f : Addr} {fd : FuncData} (Z : Bl P base mg) (T : Cs K mg) (F : Fun K "_law_no_fewer" "_law_no_fewer" (topS 28) f fd) (hm : mg "_law_no_fewer" = some (.ref f)) (h_can_be : Has P w K mg base 38 "can_be" 3 m_can_be) : Has P w K mg base 39 "_law_no_fewer" 5 m_law_no_fewer :=
  has_of F fnM_len (fok_law_no_fewer Z T F h_can_be) hm (F.binds (ps := ["_law_net_here", "_law_one", "_law_two", "_law_deeds", "_law_told"]) fun _ _ _ _ _ _ us hl => match us, hl with | [_, _, _, _, _], _ => rfl)
theorem sc_law : FnScope ["_law_script", "_law_net_here", "_law_k", "_law_pool_here", "_law_stand_here", "_law_deeds", "_law_told"] ["_law_script"] (defScope (topS 29)) := ⟨rfl, rfl, rfl, by decide +kernel, rfl, by decide +kernel, by decide +kernel⟩
theorem fok_law {f : Addr} {fd : FuncData} (Z : Bl P base mg) (T : Cs K mg) (F : Fun K "law" "law" (topS 29) f fd) (h_law_pool : Has P w K mg base 36 "_law_pool" 2 m_law_pool) (h_net2c : Has P w K mg base 40 "_law_net" 3 m_net2c) (h_stand2 : Has P w K mg base 38 "_law_stand" 2 m_stand2) (h_law_some : Has P w K mg base 37 "_law_some" 2 m_law_some) (h_can_be : Has P w K mg base 38 "can_be" 3 m_can_be) (h_law_in_order : HasJ P w K mg base 39 "_law_in_order" 5 1 m_law_in_order) (h_law_amounts : HasJ P w K mg base 39 "_law_amounts" 5 1 m_law_amounts) (h_law_no_fewer : Has P w K mg base 39 "_law_no_fewer" 5 m_law_no_fewer) :
    RunAt P w K mg base callerA f fd ["_law_script"] (spI K 1 m_law) :=
  have S := sc_law
  run_def (k := 40) F S rfl (by decide) ⟨rfl, by decide, by decide⟩ fun cdv outer s H E hr =>
  iss_cons (is_set 1 S.nd (ie_call h_net2c (hr.mono (by decide)) (ia_cons (ie_v 0) (ia_cons (ie_int) (ia_cons (ie_int) (ia_nil))))))
  (iss_cons (is_for PassesOwn.never rfl (ii_R2 Z.range (ia_cons (ie_int) (ia_cons (ie_max rfl Z.max (ie_int) (ie_min rfl Z.min (ie_lenV 0 Z.len) (ie_int))) (ia_nil)))) (ig_name 2 S.nd)
  (iss_cons (is_set 3 S.nd (ie_call h_law_pool (hr.mono (by decide)) (ia_cons (ie_v 0) (ia_cons (ie_v 2) (ia_nil)))))
  (iss_cons (is_set 4 S.nd (ie_callX 3 h_stand2 (hr.mono (by decide)) (ia_cons (ie_ixV 1 (ie_int)) (ia_nil))))
  (iss_cons (is_set 5 S.nd (ie_callX 3 h_law_some (hr.mono (by decide)) (ia_cons (ie_len Z.len (ie_ixV 1 (ie_int))) (ia_nil))))
  (iss_cons (is_set 6 S.nd (ie_call h_can_be (hr.mono (by decide)) (ia_cons (ie_v 1) (ia_cons (ie_v 4) (ia_cons (ie_v 5) (ia_nil))))))
  (iss_cons (is_if (ib_w (iw_or (ib_not (ib_val (ie_callJ h_law_in_order (hr.mono (by decide)) (iaj_s (ie_v 1) (iaj_0 3 (ia_cons (ie_v 4) (ia_cons (ie_v 5) (ia_cons (ie_v 6) (ia_nil))))))))) (iw_or1 (ib_not (ib_val (ie_callJ h_law_amounts (hr.mono (by decide)) (iaj_s (ie_v 1) (iaj_0 3 (ia_cons (ie_v 4) (ia_cons (ie_v 5) (ia_cons (ie_v 6) (ia_nil)))))))))))) (iss_one (is_ret (ie_bl))) (iss_nil))
  (iss_one (is_if (ib_not (ib_val (ie_call h_law_no_fewer (hr.mono (by decide)) (ia_cons (ie_v 1) (ia_cons (ie_v 4) (ia_cons (ie_callX 3 h_stand2 (hr.mono (by decide)) (ia_cons (ie_ixV 1 (ie_int)) (ia_nil))) (ia_cons (ie_v 5) (ia_cons (ie_v 6) (ia_nil))))))))) (iss_one (is_ret (ie_bl))) (iss_nil)))))))))
  (iss_one (is_ret (ie_bl))))
end
theorem all_mk {l : PySem.W.OpenLaw} {w : World} {K : PySem.W.Frag} {h : Heap} {mg : Str → Option Value} {fa f1 f2 f3 f4 f5 f6 f7 f8 f9 f10 f11 f12 f13 f14 f15 f16 f17 f18 f19 f20 f21 f22 f23 f24 f25 f26  : Addr} (X : K.In h) (G : h.Ns mainGlobals mg) (hfa : mg "law" = some (.ref fa)) (htr : l.prog.given.tree = none)
    {od1 an1 : Option Addr} {sl1 : Array (Option Value)} {oc1 kV1 dc1 pm1 cd1 ct1 : Value}
    {od2 an2 : Option Addr} {sl2 : Array (Option Value)} {oc2 kV2 dc2 pm2 cd2 ct2 : Value}
    {od3 an3 : Option Addr} {sl3 : Array (Option Value)} {oc3 kV3 dc3 pm3 cd3 ct3 : Value}
    {od4 an4 : Option Addr} {sl4 : Array (Option Value)} {oc4 kV4 dc4 pm4 cd4 ct4 : Value}
    {od5 an5 : Option Addr} {sl5 : Array (Option Value)} {oc5 kV5 dc5 pm5 cd5 ct5 : Value}
    {od6 an6 : Option Addr} {sl6 : Array (Option Value)} {oc6 kV6 dc6 pm6 cd6 ct6 : Value}
    {od7 an7 : Option Addr} {sl7 : Array (Option Value)} {oc7 kV7 dc7 pm7 cd7 ct7 : Value}
    {od8 an8 : Option Addr} {sl8 : Array (Option Value)} {oc8 kV8 dc8 pm8 cd8 ct8 : Value}
    {od9 an9 : Option Addr} {sl9 : Array (Option Value)} {oc9 kV9 dc9 pm9 cd9 ct9 : Value}
    {od10 an10 : Option Addr} {sl10 : Array (Option Value)} {oc10 kV10 dc10 pm10 cd10 ct10 : Value}
    {od11 an11 : Option Addr} {sl11 : Array (Option Value)} {oc11 kV11 dc11 pm11 cd11 ct11 : Value}
    {od12 an12 : Option Addr} {sl12 : Array (Option Value)} {oc12 kV12 dc12 pm12 cd12 ct12 : Value}
    {od13 an13 : Option Addr} {sl13 : Array (Option Value)} {oc13 kV13 dc13 pm13 cd13 ct13 : Value}
    {od14 an14 : Option Addr} {sl14 : Array (Option Value)} {oc14 kV14 dc14 pm14 cd14 ct14 : Value}
    {od15 an15 : Option Addr} {sl15 : Array (Option Value)} {oc15 kV15 dc15 pm15 cd15 ct15 : Value}
    {od16 an16 : Option Addr} {sl16 : Array (Option Value)} {oc16 kV16 dc16 pm16 cd16 ct16 : Value}
    {od17 an17 : Option Addr} {sl17 : Array (Option Value)} {oc17 kV17 dc17 pm17 cd17 ct17 : Value}
    {od18 an18 : Option Addr} {sl18 : Array (Option Value)} {oc18 kV18 dc18 pm18 cd18 ct18 : Value}
    {od19 an19 : Option Addr} {sl19 : Array (Option Value)} {oc19 kV19 dc19 pm19 cd19 ct19 : Value}
    {od20 an20 : Option Addr} {sl20 : Array (Option Value)} {oc20 kV20 dc20 pm20 cd20 ct20 : Value}
    {od21 an21 : Option Addr} {sl21 : Array (Option Value)} {oc21 kV21 dc21 pm21 cd21 ct21 : Value}
    {od22 an22 : Option Addr} {sl22 : Array (Option Value)} {oc22 kV22 dc22 pm22 cd22 ct22 : Value}
    {od23 an23 : Option Addr} {sl23 : Array (Option Value)} {oc23 kV23 dc23 pm23 cd23 ct23 : Value}
    {od24 an24 : Option Addr} {sl24 : Array (Option Value)} {oc24 kV24 dc24 pm24 cd24 ct24 : Value}
    {od25 an25 : Option Addr} {sl25 : Array (Option Value)} {oc25 kV25 dc25 pm25 cd25 ct25 : Value}
    {od26 an26 : Option Addr} {sl26 : Array (Option Value)} {oc26 kV26 dc26 pm26 cd26 ct26 : Value}
    (a1 : PySem.W.nsIn K mainGlobals "wet_in" = some (some (.ref f1))) (l1 : K.lookup f1 = some ⟨oc1, od1, .func (PySem.W.fnOf "wet_in" "wet_in" (defArgs (topS 1)) (defBody (topS 1)) (defScope (topS 1)) .none kV1 dc1 pm1 an1 cd1 ct1), sl1⟩) (c1 : PySem.W.codeIn K cd1 "wet_in" = true) (k1 : PySem.W.keepIn K (.ref f1) = true)
    (a2 : PySem.W.nsIn K mainGlobals "takes_from" = some (some (.ref f2))) (l2 : K.lookup f2 = some ⟨oc2, od2, .func (PySem.W.fnOf "takes_from" "takes_from" (defArgs (topS 2)) (defBody (topS 2)) (defScope (topS 2)) .none kV2 dc2 pm2 an2 cd2 ct2), sl2⟩) (c2 : PySem.W.codeIn K cd2 "takes_from" = true) (k2 : PySem.W.keepIn K (.ref f2) = true)
    (a3 : PySem.W.nsIn K mainGlobals "gives_to" = some (some (.ref f3))) (l3 : K.lookup f3 = some ⟨oc3, od3, .func (PySem.W.fnOf "gives_to" "gives_to" (defArgs (topS 3)) (defBody (topS 3)) (defScope (topS 3)) .none kV3 dc3 pm3 an3 cd3 ct3), sl3⟩) (c3 : PySem.W.codeIn K cd3 "gives_to" = true) (k3 : PySem.W.keepIn K (.ref f3) = true)
    (a4 : PySem.W.nsIn K mainGlobals "have_some" = some (some (.ref f4))) (l4 : K.lookup f4 = some ⟨oc4, od4, .func (PySem.W.fnOf "have_some" "have_some" (defArgs (topS 8)) (defBody (topS 8)) (defScope (topS 8)) .none kV4 dc4 pm4 an4 cd4 ct4), sl4⟩) (c4 : PySem.W.codeIn K cd4 "have_some" = true) (k4 : PySem.W.keepIn K (.ref f4) = true)
    (a5 : PySem.W.nsIn K mainGlobals "_law_pool" = some (some (.ref f5))) (l5 : K.lookup f5 = some ⟨oc5, od5, .func (PySem.W.fnOf "_law_pool" "_law_pool" (defArgs (topS 13)) (defBody (topS 13)) (defScope (topS 13)) .none kV5 dc5 pm5 an5 cd5 ct5), sl5⟩) (c5 : PySem.W.codeIn K cd5 "_law_pool" = true) (k5 : PySem.W.keepIn K (.ref f5) = true)
    (a6 : PySem.W.nsIn K mainGlobals "_law_take" = some (some (.ref f6))) (l6 : K.lookup f6 = some ⟨oc6, od6, .func (PySem.W.fnOf "_law_take" "_law_take" (defArgs (topS 14)) (defBody (topS 14)) (defScope (topS 14)) .none kV6 dc6 pm6 an6 cd6 ct6), sl6⟩) (c6 : PySem.W.codeIn K cd6 "_law_take" = true) (k6 : PySem.W.keepIn K (.ref f6) = true)
    (a7 : PySem.W.nsIn K mainGlobals "_law_low" = some (some (.ref f7))) (l7 : K.lookup f7 = some ⟨oc7, od7, .func (PySem.W.fnOf "_law_low" "_law_low" (defArgs (topS 15)) (defBody (topS 15)) (defScope (topS 15)) .none kV7 dc7 pm7 an7 cd7 ct7), sl7⟩) (c7 : PySem.W.codeIn K cd7 "_law_low" = true) (k7 : PySem.W.keepIn K (.ref f7) = true)
    (a8 : PySem.W.nsIn K mainGlobals "_law_moved" = some (some (.ref f8))) (l8 : K.lookup f8 = some ⟨oc8, od8, .func (PySem.W.fnOf "_law_moved" "_law_moved" (defArgs (topS 23)) (defBody (topS 23)) (defScope (topS 23)) .none kV8 dc8 pm8 an8 cd8 ct8), sl8⟩) (c8 : PySem.W.codeIn K cd8 "_law_moved" = true) (k8 : PySem.W.keepIn K (.ref f8) = true)
    (a9 : PySem.W.nsIn K mainGlobals "in_turn" = some (some (.ref f9))) (l9 : K.lookup f9 = some ⟨oc9, od9, .func (PySem.W.fnOf "in_turn" "in_turn" (defArgs (topS 5)) (defBody (topS 5)) (defScope (topS 5)) .none kV9 dc9 pm9 an9 cd9 ct9), sl9⟩) (c9 : PySem.W.codeIn K cd9 "in_turn" = true) (k9 : PySem.W.keepIn K (.ref f9) = true)
    (a10 : PySem.W.nsIn K mainGlobals "cut_down" = some (some (.ref f10))) (l10 : K.lookup f10 = some ⟨oc10, od10, .func (PySem.W.fnOf "cut_down" "cut_down" (defArgs (topS 9)) (defBody (topS 9)) (defScope (topS 9)) .none kV10 dc10 pm10 an10 cd10 ct10), sl10⟩) (c10 : PySem.W.codeIn K cd10 "cut_down" = true) (k10 : PySem.W.keepIn K (.ref f10) = true)
    (a11 : PySem.W.nsIn K mainGlobals "_law_amount" = some (some (.ref f11))) (l11 : K.lookup f11 = some ⟨oc11, od11, .func (PySem.W.fnOf "_law_amount" "_law_amount" (defArgs (topS 16)) (defBody (topS 16)) (defScope (topS 16)) .none kV11 dc11 pm11 an11 cd11 ct11), sl11⟩) (c11 : PySem.W.codeIn K cd11 "_law_amount" = true) (k11 : PySem.W.keepIn K (.ref f11) = true)
    (a12 : PySem.W.nsIn K mainGlobals "_law_some" = some (some (.ref f12))) (l12 : K.lookup f12 = some ⟨oc12, od12, .func (PySem.W.fnOf "_law_some" "_law_some" (defArgs (topS 21)) (defBody (topS 21)) (defScope (topS 21)) .none kV12 dc12 pm12 an12 cd12 ct12), sl12⟩) (c12 : PySem.W.codeIn K cd12 "_law_some" = true) (k12 : PySem.W.keepIn K (.ref f12) = true)
    (a13 : PySem.W.nsIn K mainGlobals "_law_order" = some (some (.ref f13))) (l13 : K.lookup f13 = some ⟨oc13, od13, .func (PySem.W.fnOf "_law_order" "_law_order" (defArgs (topS 22)) (defBody (topS 22)) (defScope (topS 22)) .none kV13 dc13 pm13 an13 cd13 ct13), sl13⟩) (c13 : PySem.W.codeIn K cd13 "_law_order" = true) (k13 : PySem.W.keepIn K (.ref f13) = true)
    (a14 : PySem.W.nsIn K mainGlobals "can_be" = some (some (.ref f14))) (l14 : K.lookup f14 = some ⟨oc14, od14, .func (PySem.W.fnOf "can_be" "can_be" (defArgs (topS 6)) (defBody (topS 6)) (defScope (topS 6)) .none kV14 dc14 pm14 an14 cd14 ct14), sl14⟩) (c14 : PySem.W.codeIn K cd14 "can_be" = true) (k14 : PySem.W.keepIn K (.ref f14) = true)
    (a15 : PySem.W.nsIn K mainGlobals "stays_dry" = some (some (.ref f15))) (l15 : K.lookup f15 = some ⟨oc15, od15, .func (PySem.W.fnOf "stays_dry" "stays_dry" (defArgs (topS 10)) (defBody (topS 10)) (defScope (topS 10)) .none kV15 dc15 pm15 an15 cd15 ct15), sl15⟩) (c15 : PySem.W.codeIn K cd15 "stays_dry" = true) (k15 : PySem.W.keepIn K (.ref f15) = true)
    (a16 : PySem.W.nsIn K mainGlobals "stays_wet" = some (some (.ref f16))) (l16 : K.lookup f16 = some ⟨oc16, od16, .func (PySem.W.fnOf "stays_wet" "stays_wet" (defArgs (topS 11)) (defBody (topS 11)) (defScope (topS 11)) .none kV16 dc16 pm16 an16 cd16 ct16), sl16⟩) (c16 : PySem.W.codeIn K cd16 "stays_wet" = true) (k16 : PySem.W.keepIn K (.ref f16) = true)
    (a17 : PySem.W.nsIn K mainGlobals "_law_side" = some (some (.ref f17))) (l17 : K.lookup f17 = some ⟨oc17, od17, .func (PySem.W.fnOf "_law_side" "_law_side" (defArgs (topS 17)) (defBody (topS 17)) (defScope (topS 17)) .none kV17 dc17 pm17 an17 cd17 ct17), sl17⟩) (c17 : PySem.W.codeIn K cd17 "_law_side" = true) (k17 : PySem.W.keepIn K (.ref f17) = true)
    (a18 : PySem.W.nsIn K mainGlobals "_law_stand" = some (some (.ref f18))) (l18 : K.lookup f18 = some ⟨oc18, od18, .func (PySem.W.fnOf "_law_stand" "_law_stand" (defArgs (topS 20)) (defBody (topS 20)) (defScope (topS 20)) .none kV18 dc18 pm18 an18 cd18 ct18), sl18⟩) (c18 : PySem.W.codeIn K cd18 "_law_stand" = true) (k18 : PySem.W.keepIn K (.ref f18) = true)
    (a19 : PySem.W.nsIn K mainGlobals "_law_other" = some (some (.ref f19))) (l19 : K.lookup f19 = some ⟨oc19, od19, .func (PySem.W.fnOf "_law_other" "_law_other" (defArgs (topS 24)) (defBody (topS 24)) (defScope (topS 24)) .none kV19 dc19 pm19 an19 cd19 ct19), sl19⟩) (c19 : PySem.W.codeIn K cd19 "_law_other" = true) (k19 : PySem.W.keepIn K (.ref f19) = true)
    (a20 : PySem.W.nsIn K mainGlobals "_law_other_stand" = some (some (.ref f20))) (l20 : K.lookup f20 = some ⟨oc20, od20, .func (PySem.W.fnOf "_law_other_stand" "_law_other_stand" (defArgs (topS 25)) (defBody (topS 25)) (defScope (topS 25)) .none kV20 dc20 pm20 an20 cd20 ct20), sl20⟩) (c20 : PySem.W.codeIn K cd20 "_law_other_stand" = true) (k20 : PySem.W.keepIn K (.ref f20) = true)
    (a21 : PySem.W.nsIn K mainGlobals "_law_deed" = some (some (.ref f21))) (l21 : K.lookup f21 = some ⟨oc21, od21, .func (PySem.W.fnOf "_law_deed" "_law_deed" (defArgs (topS 18)) (defBody (topS 18)) (defScope (topS 18)) .none kV21 dc21 pm21 an21 cd21 ct21), sl21⟩) (c21 : PySem.W.codeIn K cd21 "_law_deed" = true) (k21 : PySem.W.keepIn K (.ref f21) = true)
    (a22 : PySem.W.nsIn K mainGlobals "_law_in_order" = some (some (.ref f22))) (l22 : K.lookup f22 = some ⟨oc22, od22, .func (PySem.W.fnOf "_law_in_order" "_law_in_order" (defArgs (topS 26)) (defBody (topS 26)) (defScope (topS 26)) .none kV22 dc22 pm22 an22 cd22 ct22), sl22⟩) (c22 : PySem.W.codeIn K cd22 "_law_in_order" = true) (k22 : PySem.W.keepIn K (.ref f22) = true)
    (a23 : PySem.W.nsIn K mainGlobals "_law_amounts" = some (some (.ref f23))) (l23 : K.lookup f23 = some ⟨oc23, od23, .func (PySem.W.fnOf "_law_amounts" "_law_amounts" (defArgs (topS 27)) (defBody (topS 27)) (defScope (topS 27)) .none kV23 dc23 pm23 an23 cd23 ct23), sl23⟩) (c23 : PySem.W.codeIn K cd23 "_law_amounts" = true) (k23 : PySem.W.keepIn K (.ref f23) = true)
    (a24 : PySem.W.nsIn K mainGlobals "_law_no_fewer" = some (some (.ref f24))) (l24 : K.lookup f24 = some ⟨oc24, od24, .func (PySem.W.fnOf "_law_no_fewer" "_law_no_fewer" (defArgs (topS 28)) (defBody (topS 28)) (defScope (topS 28)) .none kV24 dc24 pm24 an24 cd24 ct24), sl24⟩) (c24 : PySem.W.codeIn K cd24 "_law_no_fewer" = true) (k24 : PySem.W.keepIn K (.ref f24) = true)
    (a25 : PySem.W.nsIn K mainGlobals "_law_net" = some (some (.ref f25))) (l25 : K.lookup f25 = some ⟨oc25, od25, .func (PySem.W.fnOf "_law_net" "_law_net" (defArgs (topS 19)) (defBody (topS 19)) (defScope (topS 19)) .none kV25 dc25 pm25 an25 cd25 ct25), sl25⟩) (c25 : PySem.W.codeIn K cd25 "_law_net" = true) (k25 : PySem.W.keepIn K (.ref f25) = true)
    (a26 : PySem.W.nsIn K mainGlobals "law" = some (some (.ref f26))) (l26 : K.lookup f26 = some ⟨oc26, od26, .func (PySem.W.fnOf "law" "law" (defArgs (topS 29)) (defBody (topS 29)) (defScope (topS 29)) .none kV26 dc26 pm26 an26 cd26 ct26), sl26⟩) (c26 : PySem.W.codeIn K cd26 "law" = true) (k26 : PySem.W.keepIn K (.ref f26) = true)
    (z_abs : PySem.W.nsIn K mainGlobals "abs" = some none) (z_all : PySem.W.nsIn K mainGlobals "all" = some none) (z_dict : PySem.W.nsIn K mainGlobals "dict" = some none) (z_enumerate : PySem.W.nsIn K mainGlobals "enumerate" = some none) (z_int : PySem.W.nsIn K mainGlobals "int" = some none) (z_len : PySem.W.nsIn K mainGlobals "len" = some none) (z_list : PySem.W.nsIn K mainGlobals "list" = some none) (z_max : PySem.W.nsIn K mainGlobals "max" = some none) (z_min : PySem.W.nsIn K mainGlobals "min" = some none) (z_range : PySem.W.nsIn K mainGlobals "range" = some none) (z_sorted : PySem.W.nsIn K mainGlobals "sorted" = some none) (z_zip : PySem.W.nsIn K mainGlobals "zip" = some none)  (fq_stays_dry : f15 = fnA_stays_dry) (fq_stays_wet : f16 = fnA_stays_wet) :
    ∃ fd : FuncData, (∀ (s : Shared) (v : Value), BindsTo s fd ⟨[v], []⟩ [("_law_script", v)]) ∧ ∀ base : Heap, K.In base → base.Ns mainGlobals mg → base.NoSeer → RunAt l.prog w K mg base callerA fa fd ["_law_script"] (spI K 1 m_law) := by
  have e := hfa.symm.trans (PySem.W.mg_of X G a26)
  cases e
  refine ⟨PySem.W.fnOf "law" "law" (defArgs (topS 29)) (defBody (topS 29)) (defScope (topS 29)) .none kV26 dc26 pm26 an26 cd26 ct26, fun s v => .of_eq rfl, fun base _ _ hsr => ?_⟩
  have Z : Bl l.prog base mg := ⟨htr, hsr, PySem.W.mg_none_of X G z_abs, PySem.W.mg_none_of X G z_all, PySem.W.mg_none_of X G z_dict, PySem.W.mg_none_of X G z_enumerate, PySem.W.mg_none_of X G z_int, PySem.W.mg_none_of X G z_len, PySem.W.mg_none_of X G z_list, PySem.W.mg_none_of X G z_max, PySem.W.mg_none_of X G z_min, PySem.W.mg_none_of X G z_range, PySem.W.mg_none_of X G z_sorted, PySem.W.mg_none_of X G z_zip⟩
  have T : Cs K mg := ⟨trivial, (fq_stays_dry) ▸ (PySem.W.mg_of X G a15), (fq_stays_wet) ▸ (PySem.W.mg_of X G a16)⟩
  have h_law_pool : Has l.prog w K mg base 36 "_law_pool" 2 m_law_pool := has_law_pool Z T (fun_mk (st := topS 13) l5 c5 k5) (PySem.W.mg_of X G a5)
  have h_take2 : Has l.prog w K mg base 36 "_law_take" 2 m_take2 := has_take2 Z T (fun_mk (st := topS 14) l6 c6 k6) (PySem.W.mg_of X G a6)
  have h_low : Has l.prog w K mg base 36 "_law_low" 2 m_low := has_low Z T (fun_mk (st := topS 15) l7 c7 k7) (PySem.W.mg_of X G a7)
  have h_amount2 : Has l.prog w K mg base 37 "_law_amount" 1 m_amount2 := has_amount2 Z T (fun_mk (st := topS 16) l11 c11 k11) (PySem.W.mg_of X G a11) h_take2 h_low
  have h_side2 : Has l.prog w K mg base 38 "_law_side" 2 m_side2 := has_side2 Z T (fun_mk (st := topS 17) l17 c17 k17) (PySem.W.mg_of X G a17) h_take2 h_amount2
  have h_deed2 : Has l.prog w K mg base 39 "_law_deed" 2 m_deed2 := has_deed2 Z T (fun_mk (st := topS 18) l21 c21 k21) (PySem.W.mg_of X G a21) h_take2 h_amount2 h_side2
  have h_net2c : Has l.prog w K mg base 40 "_law_net" 3 m_net2c := has_net2c Z T (fun_mk (st := topS 19) l25 c25 k25) (PySem.W.mg_of X G a25) h_law_pool h_take2 h_deed2
  have h_stand2 : Has l.prog w K mg base 38 "_law_stand" 2 m_stand2 := has_stand2 Z T (fun_mk (st := topS 20) l18 c18 k18) (PySem.W.mg_of X G a18) h_take2 h_amount2
  have h_law_some : Has l.prog w K mg base 37 "_law_some" 2 m_law_some := has_law_some Z T (fun_mk (st := topS 21) l12 c12 k12) (PySem.W.mg_of X G a12) h_take2
  have h_wet_in : Has l.prog w K mg base 36 "wet_in" 1 m_wet_in := has_wet_in Z T (fun_mk (st := topS 1) l1 c1 k1) (PySem.W.mg_of X G a1)
  have h_takes_from : Has l.prog w K mg base 36 "takes_from" 2 m_takes_from := has_takes_from Z T (fun_mk (st := topS 2) l2 c2 k2) (PySem.W.mg_of X G a2)
  have h_gives_to : Has l.prog w K mg base 36 "gives_to" 2 m_gives_to := has_gives_to Z T (fun_mk (st := topS 3) l3 c3 k3) (PySem.W.mg_of X G a3)
  have h_in_turn : Has l.prog w K mg base 37 "in_turn" 3 m_in_turn := has_in_turn Z T (fun_mk (st := topS 5) l9 c9 k9) (PySem.W.mg_of X G a9) h_wet_in h_takes_from h_gives_to
  have h_can_be : Has l.prog w K mg base 38 "can_be" 3 m_can_be := has_can_be Z T (fun_mk (st := topS 6) l14 c14 k14) (PySem.W.mg_of X G a14) h_in_turn
  have h_law_order : Has l.prog w K mg base 37 "_law_order" 2 m_law_order := has_law_order Z T (fun_mk (st := topS 22) l13 c13 k13) (PySem.W.mg_of X G a13) h_take2
  have h_law_moved : Has l.prog w K mg base 36 "_law_moved" 3 m_law_moved := has_law_moved Z T (fun_mk (st := topS 23) l8 c8 k8) (PySem.W.mg_of X G a8)
  have h_have_some : Has l.prog w K mg base 36 "have_some" 2 m_have_some := has_have_some Z T (fun_mk (st := topS 8) l4 c4 k4) (PySem.W.mg_of X G a4)
  have h_cut_down : Has l.prog w K mg base 37 "cut_down" 2 m_cut_down := has_cut_down Z T (fun_mk (st := topS 9) l10 c10 k10) (PySem.W.mg_of X G a10) h_have_some
  have h_stays_dry : Has l.prog w K mg base 38 "stays_dry" 2 m_stays_dry := has_stays_dry Z T (fun_mk (st := topS 10) l15 c15 k15) (PySem.W.mg_of X G a15) h_takes_from h_gives_to h_cut_down
  have h_stays_wet : Has l.prog w K mg base 38 "stays_wet" 2 m_stays_wet := has_stays_wet Z T (fun_mk (st := topS 11) l16 c16 k16) (PySem.W.mg_of X G a16) h_takes_from h_gives_to h_cut_down
  have h_law_in_order : HasJ l.prog w K mg base 39 "_law_in_order" 5 1 m_law_in_order := has_law_in_order Z T (fun_mk (st := topS 26) l22 c22 k22) (PySem.W.mg_of X G a22) h_can_be h_law_order h_law_moved h_stays_dry h_stays_wet
  have h_law_other : Has l.prog w K mg base 38 "_law_other" 2 m_law_other := has_law_other Z T (fun_mk (st := topS 24) l19 c19 k19) (PySem.W.mg_of X G a19) h_amount2
  have h_law_other_stand : Has l.prog w K mg base 38 "_law_other_stand" 2 m_law_other_stand := has_law_other_stand Z T (fun_mk (st := topS 25) l20 c20 k20) (PySem.W.mg_of X G a20) h_amount2
  have h_law_amounts : HasJ l.prog w K mg base 39 "_law_amounts" 5 1 m_law_amounts := has_law_amounts Z T (fun_mk (st := topS 27) l23 c23 k23) (PySem.W.mg_of X G a23) h_can_be h_stays_dry h_stays_wet h_law_other h_law_other_stand
  have h_law_no_fewer : Has l.prog w K mg base 39 "_law_no_fewer" 5 m_law_no_fewer := has_law_no_fewer Z T (fun_mk (st := topS 28) l24 c24 k24) (PySem.W.mg_of X G a24) h_can_be
  exact fok_law Z T (fun_mk (st := topS 29) l26 c26 k26) h_law_pool h_net2c h_stand2 h_law_some h_can_be h_law_in_order h_law_amounts h_law_no_fewer
end L_flowtokens_k24_whole_wet_whatever_the_am
open PySem PySem.W PyProof.Rows
set_option maxHeartbeats 0 in
theorem PySem.Challenge.cw_flowtokens_k24_whole_wet_whatever_the_am_holds : PySem.Challenge.rw_flowtokens_k24_whole_wet_whatever_the_am.Holds := by
  w_on; o_law; k_head; (case hw => w_witness2)
  k_fill
  refine Fl.walk_at (l := PySem.Challenge.rw_flowtokens_k24_whole_wet_whatever_the_am) (n := 63) (x := "_law_script") (sp := fun w => Fl.spI _ 1 L_flowtokens_k24_whole_wet_whatever_the_am.m_law) rfl (by decide) rfl (by decide +kernel) (fun w h Y => PySem.W.kIn_of Y) ?F (fun w H a ns hl hS => Fl.law_sp hS (L_flowtokens_k24_whole_wet_whatever_the_am.law_true ns hl))
  case F =>
    intro w mg fa h KX G hmg
    refine' L_flowtokens_k24_whole_wet_whatever_the_am.all_mk (l := PySem.Challenge.rw_flowtokens_k24_whole_wet_whatever_the_am) KX G hmg rfl ?a1 ?l1 ?c1 ?k1 ?a2 ?l2 ?c2 ?k2 ?a3 ?l3 ?c3 ?k3 ?a4 ?l4 ?c4 ?k4 ?a5 ?l5 ?c5 ?k5 ?a6 ?l6 ?c6 ?k6 ?a7 ?l7 ?c7 ?k7 ?a8 ?l8 ?c8 ?k8 ?a9 ?l9 ?c9 ?k9 ?a10 ?l10 ?c10 ?k10 ?a11 ?l11 ?c11 ?k11 ?a12 ?l12 ?c12 ?k12 ?a13 ?l13 ?c13 ?k13 ?a14 ?l14 ?c14 ?k14 ?a15 ?l15 ?c15 ?k15 ?a16 ?l16 ?c16 ?k16 ?a17 ?l17 ?c17 ?k17 ?a18 ?l18 ?c18 ?k18 ?a19 ?l19 ?c19 ?k19 ?a20 ?l20 ?c20 ?k20 ?a21 ?l21 ?c21 ?k21 ?a22 ?l22 ?c22 ?k22 ?a23 ?l23 ?c23 ?k23 ?a24 ?l24 ?c24 ?k24 ?a25 ?l25 ?c25 ?k25 ?a26 ?l26 ?c26 ?k26 ?z_abs ?z_all ?z_dict ?z_enumerate ?z_int ?z_len ?z_list ?z_max ?z_min ?z_range ?z_sorted ?z_zip ?fq_stays_dry ?fq_stays_wet
    (case a1 => k_is); (case l1 => k_is); (case c1 => k_is); (case k1 => k_is); (case a2 => k_is); (case l2 => k_is); (case c2 => k_is); (case k2 => k_is); (case a3 => k_is); (case l3 => k_is); (case c3 => k_is); (case k3 => k_is); (case a4 => k_is); (case l4 => k_is); (case c4 => k_is); (case k4 => k_is); (case a5 => k_is); (case l5 => k_is); (case c5 => k_is); (case k5 => k_is); (case a6 => k_is); (case l6 => k_is); (case c6 => k_is); (case k6 => k_is); (case a7 => k_is); (case l7 => k_is); (case c7 => k_is); (case k7 => k_is); (case a8 => k_is); (case l8 => k_is); (case c8 => k_is); (case k8 => k_is); (case a9 => k_is); (case l9 => k_is); (case c9 => k_is); (case k9 => k_is); (case a10 => k_is); (case l10 => k_is); (case c10 => k_is); (case k10 => k_is); (case a11 => k_is); (case l11 => k_is); (case c11 => k_is); (case k11 => k_is); (case a12 => k_is); (case l12 => k_is); (case c12 => k_is); (case k12 => k_is); (case a13 => k_is); (case l13 => k_is); (case c13 => k_is); (case k13 => k_is); (case a14 => k_is); (case l14 => k_is); (case c14 => k_is); (case k14 => k_is); (case a15 => k_is); (case l15 => k_is); (case c15 => k_is); (case k15 => k_is); (case a16 => k_is); (case l16 => k_is); (case c16 => k_is); (case k16 => k_is); (case a17 => k_is); (case l17 => k_is); (case c17 => k_is); (case k17 => k_is); (case a18 => k_is); (case l18 => k_is); (case c18 => k_is); (case k18 => k_is); (case a19 => k_is); (case l19 => k_is); (case c19 => k_is); (case k19 => k_is); (case a20 => k_is); (case l20 => k_is); (case c20 => k_is); (case k20 => k_is); (case a21 => k_is); (case l21 => k_is); (case c21 => k_is); (case k21 => k_is); (case a22 => k_is); (case l22 => k_is); (case c22 => k_is); (case k22 => k_is); (case a23 => k_is); (case l23 => k_is); (case c23 => k_is); (case k23 => k_is); (case a24 => k_is); (case l24 => k_is); (case c24 => k_is); (case k24 => k_is); (case a25 => k_is); (case l25 => k_is); (case c25 => k_is); (case k25 => k_is); (case a26 => k_is); (case l26 => k_is); (case c26 => k_is); (case k26 => k_is); (case z_abs => k_is); (case z_all => k_is); (case z_dict => k_is); (case z_enumerate => k_is); (case z_int => k_is); (case z_len => k_is); (case z_list => k_is); (case z_max => k_is); (case z_min => k_is); (case z_range => k_is); (case z_sorted => k_is); (case z_zip => k_is); (case fq_stays_dry => rfl); (case fq_stays_wet => rfl)
