import PyProof.Rows.All
import Wide.All
import OpenK.AllK
import Wide.FinOn
import HandS.ForMost
import HandS.Exc
import HandS.ExcOwn
import HandS.WordsExc
import HandS.CallSlots
import HandS.Defaults
import HandS.MakeKw
import HandS.MakeKwOnly
import HandS.Wide
import HandS.Flow
import HandS.NoneIn
import HandS.TryOnly
import HandS.Style
import HandS.IsInst
import HandS.HeadHook2
import HandS.HeadEnd
import HandS.Head2
import KE.KExcInit
import HandS.ExcInit
import HandS.ExcIs
import HandS.TupAny
import HandS.SortRule
import HandS.Zip
import HandS.SetFor
import HandS.Strs
import PySem.Challenge.RW_leasepair_k03_the_first_number
set_option Elab.async false
set_option linter.all false
set_option maxRecDepth 100000
set_option maxHeartbeats 4000000
/-! mirrors: data, abstract heaps, how they lie in the concrete heap -/
namespace MP
open PySem PySem.Spec L2
open PyProof.Rows hiding St

inductive D where
  | non | bl (b : Bool) | int (i : Int) | str (x : Str) | tup (xs : List D) | lst (xs : List D) | fz (xs : List D) | ref (n : Nat) | con (a : Addr)
inductive AO where
  | lst (xs : List D)
  | dct (kvs : List (Key × D))
  | ins (c : Nat) (fs : List (Str × D))
mutual
def D.eqb : D → D → Bool
  | .non, .non => true
  | .bl a, .bl b => a == b
  | .int a, .int b => a == b
  | .str a, .str b => decide (a = b)
  | .tup a, .tup b => D.eqbL a b
  | .lst a, .lst b => D.eqbL a b
  | .fz a, .fz b => D.eqbL a b
  | .ref a, .ref b => a == b
  | .con a, .con b => decide (a = b)
  | _, _ => false
def D.eqbL : List D → List D → Bool
  | [], [] => true
  | a :: as, b :: bs => D.eqb a b && D.eqbL as bs
  | _, _ => false
end
mutual
theorem D.eqb_eq : ∀ {a b : D}, D.eqb a b = true → a = b
  | .non, b, h => by cases b <;> simp [D.eqb] at h ⊢
  | .bl a, b, h => by cases b <;> simp [D.eqb] at h ⊢ <;> exact h
  | .int a, b, h => by cases b <;> simp [D.eqb] at h ⊢ <;> exact h
  | .str a, b, h => by cases b <;> simp [D.eqb] at h ⊢ <;> exact h
  | .tup a, b, h => by cases b <;> simp [D.eqb] at h ⊢ <;> exact D.eqbL_eq h
  | .lst a, b, h => by cases b <;> simp [D.eqb] at h ⊢ <;> exact D.eqbL_eq h
  | .fz a, b, h => by cases b <;> simp [D.eqb] at h ⊢ <;> exact D.eqbL_eq h
  | .ref a, b, h => by cases b <;> simp [D.eqb] at h ⊢ <;> exact h
  | .con a, b, h => by cases b <;> simp [D.eqb] at h ⊢ <;> exact h
theorem D.eqbL_eq : ∀ {a b : List D}, D.eqbL a b = true → a = b
  | [], b, h => by cases b <;> simp [D.eqbL] at h ⊢
  | a :: as, b, h => by
    cases b with
    | nil => simp [D.eqbL] at h
    | cons b bs =>
      simp only [D.eqbL, Bool.and_eq_true] at h
      rw [D.eqb_eq h.1, D.eqbL_eq h.2]
end
mutual
theorem D.eqb_refl : ∀ a : D, D.eqb a a = true
  | .non => rfl
  | .bl a => by simp [D.eqb]
  | .int a => by simp [D.eqb]
  | .str a => by simp [D.eqb]
  | .tup a => by simp only [D.eqb]; exact D.eqbL_refl a
  | .lst a => by simp only [D.eqb]; exact D.eqbL_refl a
  | .fz a => by simp only [D.eqb]; exact D.eqbL_refl a
  | .ref a => by simp [D.eqb]
  | .con a => by simp [D.eqb]
theorem D.eqbL_refl : ∀ a : List D, D.eqbL a a = true
  | [] => rfl
  | a :: as => by simp only [D.eqbL, D.eqb_refl a, D.eqbL_refl as, Bool.and_self]
end
structure AH where
  n : Nat
  g : Nat → Option AO
def AH.put (h : AH) (i : Nat) (o : AO) : AH := ⟨h.n, fun k => if k = i then some o else h.g k⟩
def AH.new (h : AH) (o : AO) : AH := ⟨h.n + 1, fun k => if k = h.n then some o else h.g k⟩
structure Ex where
  c : Nat
  fs : List (Str × D)
inductive Res (α : Type) where
  | ok (a : α) (h : AH)
  | ex (e : Ex) (h : AH)
  | st
/-- the world of a proof: the written part, the classes' addresses -/
structure Wd where
  K : PySem.W.Frag
  T : Nat → Addr
/-- how an abstract heap lies: so many ids, their addresses, the part of the heap that is spoken of -/
structure Cf where
  n : Nat
  ρ : Nat → Addr
  G : Hp
def Cf.noid (c : Cf) (a : Addr) : Prop := ∀ k, k < c.n → c.ρ k ≠ a

/-- a list that nobody writes -/
def LstR (w : Wd) (c : Cf) (a : Addr) (vs : List V) : Prop := c.G a = some (.lst vs) ∧ c.noid a
/-- a list that is locked or of the top's -/
def FzR (w : Wd) (c : Cf) (a : Addr) (vs : List V) : Prop := (Rd c.G a (.lst vs) ∧ c.noid a) ∨ SqL w.K (fun _ => none) a vs
def TupR (w : Wd) (c : Cf) (a : Addr) (vs : List V) : Prop := (Rd c.G a (.tup vs) ∧ c.noid a) ∨ SqT w.K (fun _ => none) a vs
mutual
def Rep (w : Wd) (c : Cf) : D → V → Prop
  | .non, v => v = .non
  | .bl b, v => v = .bl b
  | .int i, v => v = .int i
  | .str x, v => v = .str x
  | .tup ds, v => ∃ a vs, v = .ref a ∧ TupR w c a vs ∧ RepL w c ds vs
  | .lst ds, v => ∃ a vs, v = .ref a ∧ LstR w c a vs ∧ RepL w c ds vs
  | .fz ds, v => ∃ a vs, v = .ref a ∧ FzR w c a vs ∧ RepL w c ds vs
  | .ref k, v => v = .ref (c.ρ k) ∧ k < c.n
  | .con a, v => v = .ref a
def RepL (w : Wd) (c : Cf) : List D → List V → Prop
  | [], vs => vs = []
  | d :: ds, vs => ∃ x xs, vs = x :: xs ∧ Rep w c d x ∧ RepL w c ds xs
end
def RepKV (w : Wd) (c : Cf) {κ : Type} : List (κ × D) → List (κ × V) → Prop
  | [], vs => vs = []
  | d :: ds, vs => ∃ x xs, vs = (d.1, x) :: xs ∧ Rep w c d.2 x ∧ RepKV w c ds xs
def RepO (w : Wd) (c : Cf) : AO → HO → Prop
  | .lst ds, o => ∃ vs, o = .lst vs ∧ RepL w c ds vs
  | .dct kvs, o => ∃ vs, o = .dK vs ∧ RepKV w c kvs vs
  | .ins k fs, o => ∃ dx vs, o = .ins (w.T k) dx vs ∧ RepKV w c fs vs
structure Rel (w : Wd) (c : Cf) (h : AH) (H : Hp) : Prop where
  n : c.n = h.n
  wf : ∀ k, h.n ≤ k → h.g k = none
  all : ∀ k, k < h.n → ∃ o, h.g k = some o
  inj : ∀ j k, j < c.n → k < c.n → c.ρ j = c.ρ k → j = k
  at_ : ∀ k o, h.g k = some o → ∃ u, c.G (c.ρ k) = some u ∧ RepO w c o u
  sub : ∀ a u, c.G a = some u → H a = some u
structure Ext (c : Cf) (H : Hp) (c' : Cf) (H' : Hp) : Prop where
  n : c.n ≤ c'.n
  ρ : ∀ k, k < c.n → c'.ρ k = c.ρ k
  keep : ∀ a u, H a = some u → c.noid a → H' a = some u
  keepG : ∀ a u, c.G a = some u → c.noid a → c'.G a = some u
  there : ∀ a, H a ≠ none → H' a ≠ none
  newρ : ∀ k, c.n ≤ k → k < c'.n → H (c'.ρ k) = none
  newG : ∀ a, c'.G a ≠ none → c.G a = none → H a = none
  sub : ∀ a u, c.G a = some u → H a = some u
def RelS (w : Wd) (c : Cf) : List (Option D) → St → Prop
  | [], σ => σ = []
  | none :: s, σ => ∃ x xs, σ = x :: xs ∧ RelS w c s xs
  | some d :: s, σ => ∃ v xs, σ = some v :: xs ∧ Rep w c d v ∧ RelS w c s xs

variable {w : Wd} {c c' c1 c2 : Cf} {H H' H1 H2 : Hp} {h : AH}

theorem Ext.refl (R : ∀ a u, c.G a = some u → H a = some u) : Ext c H c H :=
  ⟨Nat.le_refl _, fun _ _ => rfl, fun _ _ e _ => e, fun _ _ e _ => e, fun _ e => e, fun k a b => absurd b (Nat.not_lt.mpr a), fun _ a b => absurd b a, R⟩
theorem noneEq {α : Type} {o : Option α} (h : ¬ o ≠ none) : o = none := Classical.not_not.mp h
theorem Ext.noid1 (e : Ext c H c1 H1) {a : Addr} (ha : H a ≠ none) (n : c.noid a) : c1.noid a := fun k hk z => by
  by_cases q : k < c.n
  · rw [e.ρ k q] at z
    exact n k q z
  · have := e.newρ k (Nat.not_lt.mp q) hk
    rw [z] at this
    exact ha this
theorem Ext.trans (e1 : Ext c H c1 H1) (e2 : Ext c1 H1 c2 H2) : Ext c H c2 H2 where
  n := Nat.le_trans e1.n e2.n
  ρ k hk := by rw [e2.ρ k (Nat.lt_of_lt_of_le hk e1.n), e1.ρ k hk]
  keep a u ha n := e2.keep a u (e1.keep a u ha n) (e1.noid1 (by rw [ha]; exact nofun) n)
  keepG a u ha n := e2.keepG a u (e1.keepG a u ha n) (e1.noid1 (by rw [e1.sub a u ha]; exact nofun) n)
  there a ha := e2.there a (e1.there a ha)
  newρ k h1 h2 := by
    by_cases q : k < c1.n
    · rw [e2.ρ k q]
      exact e1.newρ k h1 q
    · have := e2.newρ k (Nat.not_lt.mp q) h2
      exact noneEq fun z => e1.there _ z this
  newG a h1 h2 := by
    by_cases q : c1.G a = none
    · have := e2.newG a h1 q
      exact noneEq fun z => e1.there _ z this
    · exact e1.newG a q h2
  sub := e1.sub
/-- all that is told stays told -/
structure Mo (c c1 : Cf) : Prop where
  n : c.n ≤ c1.n
  ρ : ∀ k, k < c.n → c1.ρ k = c.ρ k
  keepG : ∀ a u, c.G a = some u → c.noid a → c1.G a = some u
  noid : ∀ a, c.G a ≠ none → c.noid a → c1.noid a
theorem Ext.mo (e : Ext c H c1 H1) : Mo c c1 := ⟨e.n, e.ρ, e.keepG, fun a ha n => e.noid1 (by
  cases q : c.G a with
  | none => exact absurd q ha
  | some u => rw [e.sub a u q]; exact nofun) n⟩
theorem LstR.mo (e : Mo c c1) {a : Addr} {vs : List V} (r : LstR w c a vs) : LstR w c1 a vs :=
  ⟨e.keepG _ _ r.1 r.2, e.noid _ (by rw [r.1]; exact nofun) r.2⟩
theorem FzR.mo (e : Mo c c1) {a : Addr} {vs : List V} (r : FzR w c a vs) : FzR w c1 a vs := by
  rcases r with ⟨r, n⟩ | r
  · refine Or.inl ⟨?_, e.noid _ ?_ n⟩
    · rcases r with r | ⟨o, r⟩
      · exact .inl (e.keepG _ _ r n)
      · exact .inr ⟨o, e.keepG _ _ r n⟩
    · rcases r with r | ⟨o, r⟩ <;> (rw [r]; exact nofun)
  · exact Or.inr r
theorem TupR.mo (e : Mo c c1) {a : Addr} {vs : List V} (r : TupR w c a vs) : TupR w c1 a vs := by
  rcases r with ⟨r, n⟩ | r
  · refine Or.inl ⟨?_, e.noid _ ?_ n⟩
    · rcases r with r | ⟨o, r⟩
      · exact .inl (e.keepG _ _ r n)
      · exact .inr ⟨o, e.keepG _ _ r n⟩
    · rcases r with r | ⟨o, r⟩ <;> (rw [r]; exact nofun)
  · exact Or.inr r
mutual
theorem Rep.mo (e : Mo c c1) : ∀ {d : D} {v : V}, Rep w c d v → Rep w c1 d v
  | .non, _, r => by simpa [Rep] using r
  | .bl _, _, r => by simpa [Rep] using r
  | .int _, _, r => by simpa [Rep] using r
  | .str _, _, r => by simpa [Rep] using r
  | .tup ds, _, r => by
    simp only [Rep] at r ⊢
    obtain ⟨a, vs, rfl, t, q⟩ := r
    exact ⟨a, vs, rfl, t.mo e, RepL.mo e q⟩
  | .lst ds, _, r => by
    simp only [Rep] at r ⊢
    obtain ⟨a, vs, rfl, t, q⟩ := r
    exact ⟨a, vs, rfl, t.mo e, RepL.mo e q⟩
  | .fz ds, _, r => by
    simp only [Rep] at r ⊢
    obtain ⟨a, vs, rfl, t, q⟩ := r
    exact ⟨a, vs, rfl, t.mo e, RepL.mo e q⟩
  | .ref k, _, r => by
    simp only [Rep] at r ⊢
    obtain ⟨rfl, hk⟩ := r
    exact ⟨by rw [e.ρ k hk], Nat.lt_of_lt_of_le hk e.n⟩
  | .con _, _, r => by simpa [Rep] using r
theorem RepL.mo (e : Mo c c1) : ∀ {ds : List D} {vs : List V}, RepL w c ds vs → RepL w c1 ds vs
  | [], _, r => by simpa [RepL] using r
  | d :: ds, _, r => by
    simp only [RepL] at r ⊢
    obtain ⟨x, xs, rfl, r1, r2⟩ := r
    exact ⟨x, xs, rfl, Rep.mo e r1, RepL.mo e r2⟩
end
theorem RepKV.mo {κ : Type} (e : Mo c c1) : ∀ {ds : List (κ × D)} {vs : List (κ × V)}, RepKV w c ds vs → RepKV w c1 ds vs
  | [], _, r => r
  | d :: ds, _, r => by
    obtain ⟨x, xs, rfl, r1, r2⟩ := r
    exact ⟨x, xs, rfl, r1.mo e, RepKV.mo e r2⟩
theorem RepO.mo (e : Mo c c1) : ∀ {o : AO} {u : HO}, RepO w c o u → RepO w c1 o u
  | .lst _, _, ⟨vs, q, r⟩ => ⟨vs, q, r.mo e⟩
  | .dct _, _, ⟨vs, q, r⟩ => ⟨vs, q, r.mo e⟩
  | .ins _ _, _, ⟨dx, vs, q, r⟩ => ⟨dx, vs, q, r.mo e⟩
theorem RelS.mo (e : Mo c c1) : ∀ {s : List (Option D)} {σ : L2.St}, RelS w c s σ → RelS w c1 s σ
  | [], _, r => r
  | none :: s, _, ⟨x, xs, q, r⟩ => ⟨x, xs, q, RelS.mo e r⟩
  | some d :: s, _, ⟨x, xs, q, r1, r⟩ => ⟨x, xs, q, r1.mo e, RelS.mo e r⟩
theorem Rep.ext (e : Ext c H c1 H1) {d : D} {v : V} (r : Rep w c d v) : Rep w c1 d v := r.mo e.mo
theorem RepL.ext (e : Ext c H c1 H1) {d : List D} {v : List V} (r : RepL w c d v) : RepL w c1 d v := r.mo e.mo
theorem RepKV.ext {κ : Type} (e : Ext c H c1 H1) {d : List (κ × D)} {v : List (κ × V)} (r : RepKV w c d v) : RepKV w c1 d v := r.mo e.mo
theorem RepO.ext (e : Ext c H c1 H1) {o : AO} {u : HO} (r : RepO w c o u) : RepO w c1 o u := r.mo e.mo
theorem RelS.ext (e : Ext c H c1 H1) {s : List (Option D)} {σ : L2.St} (r : RelS w c s σ) : RelS w c1 s σ := r.mo e.mo
theorem RelS.get : ∀ {s : List (Option D)} {σ : St} {i : Nat} {d : D}, RelS w c s σ → s[i]? = some (some d) → ∃ v, σ[i]? = some (some v) ∧ Rep w c d v
  | [], _, _, _, _, q => by simp at q
  | none :: s, _, 0, d, ⟨x, xs, e, r⟩, q => by simp at q
  | none :: s, _, i + 1, d, ⟨x, xs, e, r⟩, q => by
    subst e
    simpa using RelS.get r (i := i) (by simpa using q)
  | some d' :: s, _, 0, d, ⟨x, xs, e, r1, r⟩, q => by
    subst e
    simp at q
    subst q
    exact ⟨x, by simp, r1⟩
  | some d' :: s, _, i + 1, d, ⟨x, xs, e, r1, r⟩, q => by
    subst e
    simpa using RelS.get r (i := i) (by simpa using q)
theorem RelS.set {d : D} {v : V} (rv : Rep w c d v) : ∀ {s : List (Option D)} {σ : St} {i : Nat}, RelS w c s σ → RelS w c (s.set i (some d)) (σ.set i (some v))
  | [], _, _, q => by obtain rfl : _ = [] := q; exact rfl
  | none :: s, _, 0, ⟨x, xs, e, r⟩ => by subst e; exact ⟨v, xs, rfl, rv, r⟩
  | none :: s, _, i + 1, ⟨x, xs, e, r⟩ => by subst e; exact ⟨x, xs.set i (some v), rfl, RelS.set rv r⟩
  | some d' :: s, _, 0, ⟨x, xs, e, r1, r⟩ => by subst e; exact ⟨v, xs, rfl, rv, r⟩
  | some d' :: s, _, i + 1, ⟨x, xs, e, r1, r⟩ => by subst e; exact ⟨x, xs.set i (some v), rfl, r1, RelS.set rv r⟩
theorem RelS.wipe1 : ∀ {s : List (Option D)} {σ : St} {i : Nat} {o : Option V}, RelS w c s σ → RelS w c (s.set i none) (σ.set i o)
  | [], _, _, _, q => by obtain rfl : _ = [] := q; exact rfl
  | none :: s, _, 0, o, ⟨x, xs, e, r⟩ => by subst e; exact ⟨o, xs, rfl, r⟩
  | none :: s, _, i + 1, o, ⟨x, xs, e, r⟩ => by subst e; exact ⟨x, xs.set i o, rfl, RelS.wipe1 r⟩
  | some d' :: s, _, 0, o, ⟨x, xs, e, r1, r⟩ => by subst e; exact ⟨o, xs, rfl, r⟩
  | some d' :: s, _, i + 1, o, ⟨x, xs, e, r1, r⟩ => by subst e; exact ⟨x, xs.set i o, rfl, r1, RelS.wipe1 r⟩
/-- an id's object is written -/
theorem Rel.put {k : Nat} {o o' : AO} {u u' : HO} (R : Rel w c h H) (hk : h.g k = some o) (hu : c.G (c.ρ k) = some u)
    (r : RepO w c o' u') : Rel w ⟨c.n, c.ρ, upd c.G (c.ρ k) u'⟩ (h.put k o') (upd H (c.ρ k) u') ∧ Ext c H ⟨c.n, c.ρ, upd c.G (c.ρ k) u'⟩ (upd H (c.ρ k) u') := by
  have kn : k < c.n := by
    rw [R.n]
    refine Nat.lt_of_not_le fun z => ?_
    rw [R.wf k z] at hk
    cases hk
  have E : Ext c H ⟨c.n, c.ρ, upd c.G (c.ρ k) u'⟩ (upd H (c.ρ k) u') := by
    refine ⟨Nat.le_refl _, fun _ _ => rfl, fun a u e n => ?_, fun a u e n => ?_, fun a e => ?_, fun k a b => absurd b (Nat.not_lt.mpr a), fun a e1 e2 => ?_, R.sub⟩
    · rw [upd_ne fun z => n k kn z.symm]
      exact e
    · show upd c.G (c.ρ k) u' a = _
      rw [upd_ne fun z => n k kn z.symm]
      exact e
    · by_cases z : a = c.ρ k
      · subst z
        rw [upd_same]
        exact nofun
      · rw [upd_ne z]
        exact e
    · exfalso
      have z : a ≠ c.ρ k := fun z => by rw [z, hu] at e2; cases e2
      exact e1 (by show upd c.G (c.ρ k) u' a = _; rw [upd_ne z]; exact e2)
  refine ⟨⟨R.n, fun j hj => ?_, fun j hj => ?_, R.inj, fun j o2 hj => ?_, fun a u e => ?_⟩, E⟩
  · show (if j = k then some o' else h.g j) = none
    have kn' : k < h.n := by rw [← R.n]; exact kn
    have hj' : h.n ≤ j := hj
    rw [if_neg (by omega)]
    exact R.wf j hj
  · show ∃ o, (if j = k then some o' else h.g j) = some o
    by_cases z : j = k
    · exact ⟨o', by rw [if_pos z]⟩
    · rw [if_neg z]
      exact R.all j hj
  · have hj : (if j = k then some o' else h.g j) = some o2 := hj
    by_cases z : j = k
    · rw [if_pos z] at hj
      cases hj
      subst z
      exact ⟨u', upd_same, r.ext E⟩
    · rw [if_neg z] at hj
      obtain ⟨u2, e2, r2⟩ := R.at_ j o2 hj
      have jn : j < c.n := by
        rw [R.n]
        refine Nat.lt_of_not_le fun z => ?_
        rw [R.wf j z] at hj
        cases hj
      exact ⟨u2, by show upd c.G (c.ρ k) u' (c.ρ j) = _; rw [upd_ne fun q => z (R.inj _ _ jn kn q)]; exact e2, r2.ext E⟩
  · by_cases z : a = c.ρ k
    · subst z
      have e : upd c.G (c.ρ k) u' (c.ρ k) = some u := e
      rw [upd_same] at e
      rw [upd_same]
      exact e
    · have e : upd c.G (c.ρ k) u' a = some u := e
      rw [upd_ne z] at e
      rw [upd_ne z]
      exact R.sub a u e
/-- a new object that is an id -/
def Cf.add (c : Cf) (p : Addr) (u : HO) : Cf := ⟨c.n + 1, fun k => if k = c.n then p else c.ρ k, upd c.G p u⟩
/-- a new object that nobody writes -/
def Cf.lay (c : Cf) (p : Addr) (u : HO) : Cf := ⟨c.n, c.ρ, upd c.G p u⟩
theorem Rel.gfree (R : Rel w c h H) {p : Addr} (hp : H p = none) : c.G p = none := by
  cases q : c.G p with
  | none => rfl
  | some u => rw [R.sub p u q] at hp; cases hp
theorem Rel.idThere (R : Rel w c h H) {k : Nat} (hk : k < c.n) : ∃ u, H (c.ρ k) = some u := by
  obtain ⟨o, e⟩ := R.all k (by rw [← R.n]; exact hk)
  obtain ⟨u, e2, _⟩ := R.at_ k o e
  exact ⟨u, R.sub _ _ e2⟩
theorem Rel.noidNew (R : Rel w c h H) {p : Addr} (hp : H p = none) : c.noid p := fun k hk z => by
  obtain ⟨u, e⟩ := R.idThere hk
  rw [z, hp] at e
  cases e
/-- the heap grows elsewhere (H' keeps all of H): then p of H' joins -/
theorem Rel.ext0 (R : Rel w c h H) (k : ∀ a u, H a = some u → H' a = some u) : Rel w c h H' ∧ Ext c H c H' :=
  ⟨⟨R.n, R.wf, R.all, R.inj, R.at_, fun a u e => k a u (R.sub a u e)⟩,
    ⟨Nat.le_refl _, fun _ _ => rfl, fun a u e _ => k a u e, fun _ _ e _ => e, fun a e => by
      cases q : H a with
      | none => exact absurd q e
      | some u => rw [k a u q]; exact nofun, fun k a b => absurd b (Nat.not_lt.mpr a), fun _ a b => absurd b a, R.sub⟩⟩
theorem Rel.lay {p : Addr} {u : HO} (R : Rel w c h H) (hp : H p = none) (k : ∀ a v, H a = some v → H' a = some v) (hu : H' p = some u) : Rel w (c.lay p u) h H' ∧ Ext c H (c.lay p u) H' := by
  have gp := R.gfree hp
  have E : Ext c H (c.lay p u) H' := by
    refine ⟨Nat.le_refl _, fun _ _ => rfl, fun a v e _ => k a v e, fun a v e _ => ?_, fun a e => ?_, fun k a b => absurd b (Nat.not_lt.mpr a), fun a e1 e2 => ?_, R.sub⟩
    · show upd c.G p u a = some v
      rw [upd_ne (ne_of_none e gp)]
      exact e
    · cases q : H a with
      | none => exact absurd q e
      | some v => rw [k a v q]; exact nofun
    · by_cases z : a = p
      · rw [z]; exact hp
      · exact absurd (show upd c.G p u a = none by rw [upd_ne z]; exact e2) e1
  refine ⟨⟨R.n, R.wf, R.all, R.inj, fun j o hj => ?_, fun a v e => ?_⟩, E⟩
  · obtain ⟨v, e, r⟩ := R.at_ j o hj
    exact ⟨v, by show upd c.G p u (c.ρ j) = _; rw [upd_ne (ne_of_none e gp)]; exact e, r.ext E⟩
  · have e : upd c.G p u a = some v := e
    by_cases z : a = p
    · subst z
      rw [upd_same] at e
      rw [hu]
      exact e
    · rw [upd_ne z] at e
      exact k a v (R.sub a v e)
theorem Rel.add {p : Addr} {u : HO} {o : AO} (R : Rel w c h H) (hp : H p = none) (k : ∀ a v, H a = some v → H' a = some v) (hu : H' p = some u) (r : RepO w c o u) :
    Rel w (c.add p u) (h.new o) H' ∧ Ext c H (c.add p u) H' := by
  have gp := R.gfree hp
  have E : Ext c H (c.add p u) H' := by
    refine ⟨Nat.le_succ _, fun j hj => ?_, fun a v e _ => k a v e, fun a v e _ => ?_, fun a e => ?_, fun j a b => ?_, fun a e1 e2 => ?_, R.sub⟩
    · show (if j = c.n then p else c.ρ j) = _
      rw [if_neg (Nat.ne_of_lt hj)]
    · show upd c.G p u a = some v
      rw [upd_ne (ne_of_none e gp)]
      exact e
    · cases q : H a with
      | none => exact absurd q e
      | some v => rw [k a v q]; exact nofun
    · have b : j < c.n + 1 := b
      obtain rfl : j = c.n := by omega
      show H (if c.n = c.n then p else _) = none
      rw [if_pos rfl]
      exact hp
    · by_cases z : a = p
      · rw [z]; exact hp
      · exact absurd (show upd c.G p u a = none by rw [upd_ne z]; exact e2) e1
  refine ⟨⟨by show c.n + 1 = h.n + 1; rw [R.n], fun j hj => ?_, fun j hj => ?_, fun j i hj hi e => ?_, fun j o2 hj => ?_, fun a v e => ?_⟩, E⟩
  · have hj : h.n + 1 ≤ j := hj
    show (if j = h.n then some o else h.g j) = none
    rw [if_neg (by omega)]
    exact R.wf j (by omega)
  · have hj : j < h.n + 1 := hj
    show ∃ o', (if j = h.n then some o else h.g j) = some o'
    by_cases z : j = h.n
    · exact ⟨o, by rw [if_pos z]⟩
    · rw [if_neg z]
      exact R.all j (by omega)
  · have hj : j < c.n + 1 := hj
    have hi : i < c.n + 1 := hi
    have e : (if j = c.n then p else c.ρ j) = (if i = c.n then p else c.ρ i) := e
    have no := R.noidNew hp
    by_cases zj : j = c.n
    · by_cases zi : i = c.n
      · rw [zj, zi]
      · rw [if_pos zj, if_neg zi] at e
        exact absurd e.symm (no i (by omega))
    · by_cases zi : i = c.n
      · rw [if_neg zj, if_pos zi] at e
        exact absurd e (no j (by omega))
      · rw [if_neg zj, if_neg zi] at e
        exact R.inj _ _ (by omega) (by omega) e
  · have hj : (if j = h.n then some o else h.g j) = some o2 := hj
    show ∃ v, upd c.G p u (if j = c.n then p else c.ρ j) = some v ∧ RepO w (c.add p u) o2 v
    by_cases z : j = h.n
    · rw [if_pos z] at hj
      cases hj
      rw [if_pos (by rw [R.n]; exact z), upd_same]
      exact ⟨u, rfl, r.ext E⟩
    · rw [if_neg z] at hj
      rw [if_neg (by rw [R.n]; exact z)]
      obtain ⟨v, e, r⟩ := R.at_ j o2 hj
      exact ⟨v, by rw [upd_ne (ne_of_none e gp)]; exact e, r.ext E⟩
  · have e : upd c.G p u a = some v := e
    by_cases z : a = p
    · subst z
      rw [upd_same] at e
      rw [hu]
      exact e
    · rw [upd_ne z] at e
      exact k a v (R.sub a v e)
/-! ### a new object that is still being made: it lies, but is not told of -/
theorem Rel.noidG (R : Rel w c h H) {a : Addr} (ha : c.G a = none) : c.noid a := fun k hk z => by
  obtain ⟨o, e⟩ := R.all k (by rw [← R.n]; exact hk)
  obtain ⟨u, e2, _⟩ := R.at_ k o e
  rw [z, ha] at e2
  cases e2
theorem Rel.priv {p : Addr} {o : HO} (R : Rel w c h H) (gp : c.G p = none) : Rel w c h (upd H p o) :=
  ⟨R.n, R.wf, R.all, R.inj, R.at_, fun a u e => by rw [upd_ne (ne_of_none e gp)]; exact R.sub a u e⟩
theorem Ext.priv {p : Addr} {o : HO} (E : Ext c H c1 H1) (hp : H p = none) : Ext c H c1 (upd H1 p o) :=
  ⟨E.n, E.ρ, fun a u e n => by rw [upd_ne (ne_of_none e hp)]; exact E.keep a u e n, E.keepG, fun a e => by
    by_cases z : a = p
    · subst z; rw [upd_same]; exact nofun
    · rw [upd_ne z]; exact E.there a e, E.newρ, E.newG, E.sub⟩
theorem Ext.gnone (E : Ext c H c1 H1) {p : Addr} (g : c.G p = none) (hp : H p ≠ none) : c1.G p = none := noneEq fun z => hp (E.newG p z g)
/-- it is told of from now on -/
theorem Rel.join {p : Addr} {u : HO} (R : Rel w c h H) (gp : c.G p = none) (hp : H p = some u) : Rel w (c.lay p u) h H ∧ Mo c (c.lay p u) := by
  have M : Mo c (c.lay p u) := ⟨Nat.le_refl _, fun _ _ => rfl, fun a v e _ => by show upd c.G p u a = some v; rw [upd_ne (ne_of_none e gp)]; exact e, fun a _ n => n⟩
  refine ⟨⟨R.n, R.wf, R.all, R.inj, fun j o hj => ?_, fun a v e => ?_⟩, M⟩
  · obtain ⟨v, e, r⟩ := R.at_ j o hj
    exact ⟨v, by show upd c.G p u (c.ρ j) = _; rw [upd_ne (ne_of_none e gp)]; exact e, r.mo M⟩
  · have e : upd c.G p u a = some v := e
    by_cases z : a = p
    · subst z
      rw [upd_same] at e
      rw [hp]
      exact e
    · rw [upd_ne z] at e
      exact R.sub a v e
theorem Ext.join {p : Addr} {u : HO} (E : Ext c H c1 H1) (hp : H p = none) : Ext c H (c1.lay p u) H1 :=
  ⟨E.n, E.ρ, E.keep, fun a v e n => by
    show upd c1.G p u a = some v
    rw [upd_ne (ne_of_none (E.sub a v e) hp)]
    exact E.keepG a v e n, E.there, E.newρ, fun a e1 e2 => by
    by_cases z : a = p
    · rw [z]; exact hp
    · exact E.newG a (fun q => e1 (by show upd c1.G p u a = none; rw [upd_ne z]; exact q)) e2, E.sub⟩
/-- .. as an id -/
theorem Rel.joinId {p : Addr} {u : HO} {o : AO} (R : Rel w c h H) (gp : c.G p = none) (hp : H p = some u) (r : RepO w c o u) : Rel w (c.add p u) (h.new o) H ∧ Mo c (c.add p u) := by
  have no := R.noidG gp
  have M : Mo c (c.add p u) := by
    refine ⟨Nat.le_succ _, fun j hj => ?_, fun a v e _ => by show upd c.G p u a = some v; rw [upd_ne (ne_of_none e gp)]; exact e, fun a ha n k hk z => ?_⟩
    · show (if j = c.n then p else c.ρ j) = _
      rw [if_neg (Nat.ne_of_lt hj)]
    · have hk : k < c.n + 1 := hk
      have z : (if k = c.n then p else c.ρ k) = a := z
      by_cases q : k = c.n
      · rw [if_pos q] at z
        rw [← z] at ha
        exact ha gp
      · rw [if_neg q] at z
        exact n k (by omega) z
  refine ⟨⟨by show c.n + 1 = h.n + 1; rw [R.n], fun j hj => ?_, fun j hj => ?_, fun j i hj hi e => ?_, fun j o2 hj => ?_, fun a v e => ?_⟩, M⟩
  · have hj : h.n + 1 ≤ j := hj
    show (if j = h.n then some o else h.g j) = none
    rw [if_neg (by omega)]
    exact R.wf j (by omega)
  · have hj : j < h.n + 1 := hj
    show ∃ o', (if j = h.n then some o else h.g j) = some o'
    by_cases z : j = h.n
    · exact ⟨o, by rw [if_pos z]⟩
    · rw [if_neg z]
      exact R.all j (by omega)
  · have hj : j < c.n + 1 := hj
    have hi : i < c.n + 1 := hi
    have e : (if j = c.n then p else c.ρ j) = (if i = c.n then p else c.ρ i) := e
    by_cases zj : j = c.n
    · by_cases zi : i = c.n
      · rw [zj, zi]
      · rw [if_pos zj, if_neg zi] at e
        exact absurd e.symm (no i (by omega))
    · by_cases zi : i = c.n
      · rw [if_neg zj, if_pos zi] at e
        exact absurd e (no j (by omega))
      · rw [if_neg zj, if_neg zi] at e
        exact R.inj _ _ (by omega) (by omega) e
  · have hj : (if j = h.n then some o else h.g j) = some o2 := hj
    show ∃ v, upd c.G p u (if j = c.n then p else c.ρ j) = some v ∧ RepO w (c.add p u) o2 v
    by_cases z : j = h.n
    · rw [if_pos z] at hj
      cases hj
      rw [if_pos (by rw [R.n]; exact z), upd_same]
      exact ⟨u, rfl, r.mo M⟩
    · rw [if_neg z] at hj
      rw [if_neg (by rw [R.n]; exact z)]
      obtain ⟨v, e, r⟩ := R.at_ j o2 hj
      exact ⟨v, by rw [upd_ne (ne_of_none e gp)]; exact e, r.mo M⟩
  · have e : upd c.G p u a = some v := e
    by_cases z : a = p
    · subst z
      rw [upd_same] at e
      rw [hp]
      exact e
    · rw [upd_ne z] at e
      exact R.sub a v e
theorem Ext.joinId {p : Addr} {u : HO} (E : Ext c H c1 H1) (hp : H p = none) : Ext c H (c1.add p u) H1 :=
  ⟨Nat.le_trans E.n (Nat.le_succ _), fun k hk => by
    show (if k = c1.n then p else c1.ρ k) = _
    rw [if_neg (Nat.ne_of_lt (Nat.lt_of_lt_of_le hk E.n))]
    exact E.ρ k hk, E.keep, fun a v e n => by
    show upd c1.G p u a = some v
    rw [upd_ne (ne_of_none (E.sub a v e) hp)]
    exact E.keepG a v e n, E.there, fun k h1 h2 => by
    have h2 : k < c1.n + 1 := h2
    show H (if k = c1.n then p else c1.ρ k) = none
    by_cases z : k = c1.n
    · rw [if_pos z]; exact hp
    · rw [if_neg z]; exact E.newρ k h1 (by omega), fun a e1 e2 => by
    by_cases z : a = p
    · rw [z]; exact hp
    · exact E.newG a (fun q => e1 (by show upd c1.G p u a = none; rw [upd_ne z]; exact q)) e2, E.sub⟩
end MP
set_option Elab.async false
set_option linter.all false
set_option maxRecDepth 100000
set_option maxHeartbeats 4000000
/-! mirrors: expressions, tests, statements as functions of slots and abstract heap; how readings follow from them -/
namespace MP
open PySem PySem.Spec L2
open PyProof.Rows hiding St

def Res.bind {α β : Type} (r : Res α) (f : α → AH → Res β) : Res β :=
  match r with
  | .ok a h => f a h
  | .ex e h => .ex e h
  | .st => .st
abbrev Sl := List (Option D)
abbrev ME := Sl → AH → Res D
abbrev MT := Sl → AH → Res Bool
abbrev MA := Sl → AH → Res (List D)
inductive RS where
  | nx (s : Sl) (h : AH)
  | rt (d : D) (h : AH)
  | bk (s : Sl) (h : AH)
  | ct (s : Sl) (h : AH)
  | ex (e : Ex) (s : Sl) (h : AH)
  | st
abbrev MS := Sl → AH → RS
abbrev MF := List D → AH → Res D

/-- an exception as it lies -/
def RepX (w : Wd) (c : Cf) (e : Ex) (cls : Value) (dd : Option Addr) : Prop :=
  cls = .ref (w.T e.c) ∧ (e.fs = [] ∨ ∃ d vs, dd = some d ∧ c.G d = some (.xd vs) ∧ c.noid d ∧ RepKV w c e.fs vs)
theorem RepX.ext {w : Wd} {c c1 : Cf} {H H1 : Hp} (x : Ext c H c1 H1) {e : Ex} {cls : Value} {dd : Option Addr} (r : RepX w c e cls dd) : RepX w c1 e cls dd := by
  obtain ⟨h1, h2⟩ := r
  refine ⟨h1, ?_⟩
  rcases h2 with h2 | ⟨d, vs, a, b, n, r⟩
  · exact .inl h2
  · exact .inr ⟨d, vs, a, x.keepG _ _ b n, x.noid1 (by rw [x.sub _ _ b]; exact nofun) n, r.ext x⟩

/-- what is to hold of an outcome -/
def Out (w : Wd) (c : Cf) (H : Hp) (E : XK) {α β : Type} (A : Cf → α → β → Prop) (Q : β → Hp → Prop) : Res α → Prop
  | .ok a h' => ∀ c' b H', Rel w c' h' H' → Ext c H c' H' → A c' a b → Q b H'
  | .ex e h' => ∀ c' cls dd H', Rel w c' h' H' → Ext c H c' H' → RepX w c' e cls dd → E cls dd H'
  | .st => False
def OutS (w : Wd) (c : Cf) (H : Hp) (W : WX) (D : Ends) : RS → Prop
  | .nx s' h' => ∀ c' σ' H', Rel w c' h' H' → Ext c H c' H' → RelS w c' s' σ' → D.nx σ' H'
  | .rt d h' => ∀ c' v H', Rel w c' h' H' → Ext c H c' H' → Rep w c' d v → D.rt v H'
  | .bk s' h' => ∀ c' σ' H', Rel w c' h' H' → Ext c H c' H' → RelS w c' s' σ' → D.bk σ' H'
  | .ct s' h' => ∀ c' σ' H', Rel w c' h' H' → Ext c H c' H' → RelS w c' s' σ' → D.ct σ' H'
  | .ex e s' h' => ∀ c' cls dd σ' H', Rel w c' h' H' → Ext c H c' H' → RelS w c' s' σ' → RepX w c' e cls dd → W cls dd σ' H'
  | .st => False
def tM (w : Wd) (W : WX) (m : ME) : TE := fun σ H Q => ∃ c s h, Rel w c h H ∧ RelS w c s σ ∧ Out w c H (fun cls dd H' => W cls dd σ H') (Rep w) Q (m s h)
def tT (w : Wd) (W : WX) (m : MT) : TT := fun σ H Q => ∃ c s h, Rel w c h H ∧ RelS w c s σ ∧ Out w c H (fun cls dd H' => W cls dd σ H') (fun _ a b => a = b) Q (m s h)
def tA (w : Wd) (W : WX) (m : MA) : TA := fun σ H Q => ∃ c s h, Rel w c h H ∧ RelS w c s σ ∧ Out w c H (fun cls dd H' => W cls dd σ H') (RepL w) Q (m s h)
def tS (w : Wd) (W : WX) (m : MS) : TS := fun D σ H => ∃ c s h, Rel w c h H ∧ RelS w c s σ ∧ OutS w c H W D (m s h)

section
variable {w : Wd} {c c1 : Cf} {H H1 : Hp} {E : XK} {α β γ δ : Type} {A : Cf → α → β → Prop} {B : Cf → γ → δ → Prop}
theorem Out.shift (x : Ext c H c1 H1) {Q : β → Hp → Prop} : ∀ {r : Res α}, Out w c H E A Q r → Out w c1 H1 E A Q r
  | .ok _ _, o => fun c' b H' R e a => o c' b H' R (x.trans e) a
  | .ex _ _, o => fun c' cls dd H' R e a => o c' cls dd H' R (x.trans e) a
  | .st, o => o
theorem OutS.shift {W : WX} {D : Ends} (x : Ext c H c1 H1) : ∀ {r : RS}, OutS w c H W D r → OutS w c1 H1 W D r
  | .nx _ _, o => fun c' b H' R e a => o c' b H' R (x.trans e) a
  | .rt _ _, o => fun c' b H' R e a => o c' b H' R (x.trans e) a
  | .bk _ _, o => fun c' b H' R e a => o c' b H' R (x.trans e) a
  | .ct _ _, o => fun c' b H' R e a => o c' b H' R (x.trans e) a
  | .ex _ _ _, o => fun c' cls dd σ' H' R e a r => o c' cls dd σ' H' R (x.trans e) a r
  | .st, o => o
theorem Out.mono {Q Q' : β → Hp → Prop} (q : ∀ b H', Q b H' → Q' b H') : ∀ {r : Res α}, Out w c H E A Q r → Out w c H E A Q' r
  | .ok _ _, o => fun c' b H' R e a => q _ _ (o c' b H' R e a)
  | .ex _ _, o => o
  | .st, o => o
/-- the first part of a bind -/
theorem Out.bind {Q : δ → Hp → Prop} {f : α → AH → Res γ} : ∀ {r : Res α}, Out w c H E B Q (r.bind f) →
    Out w c H E A (fun b H1 => ∃ c1 h1 a, Rel w c1 h1 H1 ∧ Ext c H c1 H1 ∧ A c1 a b ∧ Out w c1 H1 E B Q (f a h1)) r
  | .ok a h', o => fun c' b H' R e q => ⟨c', h', a, R, e, q, Out.shift e o⟩
  | .ex _ _, o => o
  | .st, o => o
end

section
variable {X : Cx}
theorem PEi {e : Expr} {t t' : TE} (h : PE X e t) (q : ∀ σ H Q, t' σ H Q → t σ H Q) : PE X e t' := ⟨fun pins s σ H Q I z => h.run pins s σ H Q I (q σ H Q z)⟩
theorem PTi {e : Expr} {t t' : TT} (h : PT X e t) (q : ∀ σ H Q, t' σ H Q → t σ H Q) : PT X e t' := ⟨fun pins s σ H Q I z => h.run pins s σ H Q I (q σ H Q z)⟩
theorem PWi {e : Expr} {t t' : TT} (h : PW X e t) (q : ∀ σ H Q, t' σ H Q → t σ H Q) : PW X e t' := ⟨fun wh pins s σ H Q I z => h.run wh pins s σ H Q I (q σ H Q z)⟩
theorem PAi {e : List Expr} {t t' : TA} (h : PA X e t) (q : ∀ σ H Q, t' σ H Q → t σ H Q) : PA X e t' := ⟨fun p pins s σ H Q I z => h.run p pins s σ H Q I (q σ H Q z)⟩
theorem PKi {e : List Keyword} {t t' : TA} (h : PK X e t) (q : ∀ σ H Q, t' σ H Q → t σ H Q) : PK X e t' := ⟨fun p pins s σ H Q I z => h.run p pins s σ H Q I (q σ H Q z)⟩
theorem PSi {e : Stmt} {t t' : TS} (h : PS X e t) (q : ∀ D σ H, t' D σ H → t D σ H) : PS X e t' := ⟨fun pins s σ H Q I z => h.run pins s σ H Q I (q Q σ H z)⟩
theorem PSsi {e : List Stmt} {t t' : TS} (h : PSs X e t) (q : ∀ D σ H, t' D σ H → t D σ H) : PSs X e t' := ⟨fun pins s σ H Q I z => h.run pins s σ H Q I (q Q σ H z)⟩
end

/-! ### what lists and tuples hold -/
def seqL (h : AH) : D → Option (List D)
  | .lst xs => some xs
  | .fz xs => some xs
  | .ref k => match h.g k with
    | some (.lst xs) => some xs
    | _ => none
  | _ => none
/-- a list of one's own -/
def seqM (h : AH) : D → Option (List D)
  | .lst xs => some xs
  | .ref k => match h.g k with
    | some (.lst xs) => some xs
    | _ => none
  | _ => none
def seqT : D → Option (List D)
  | .tup xs => some xs
  | _ => none
def seqX (h : AH) (d : D) : Option (List D) := match seqT d with
  | some xs => some xs
  | none => seqL h d
section
variable {w : Wd} {c : Cf} {H : Hp} {h : AH}
theorem Rd.up (s : ∀ a u, c.G a = some u → H a = some u) {a : Addr} {u : HO} (r : Rd c.G a u) : Rd H a u := by
  rcases r with r | ⟨o, r⟩
  · exact .inl (s _ _ r)
  · exact .inr ⟨o, s _ _ r⟩
theorem LstR.sq (s : ∀ a u, c.G a = some u → H a = some u) {a : Addr} {vs : List V} (r : LstR w c a vs) : SqL w.K H a vs := .of (s _ _ r.1)
theorem FzR.sq (s : ∀ a u, c.G a = some u → H a = some u) {a : Addr} {vs : List V} (r : FzR w c a vs) : SqL w.K H a vs := by
  rcases r with ⟨r, _⟩ | r
  · exact .inl (Rd.up s r)
  · rcases r with (r | ⟨o, r⟩) | r
    · cases r
    · cases r
    · exact .inr r
theorem TupR.sq (s : ∀ a u, c.G a = some u → H a = some u) {a : Addr} {vs : List V} (r : TupR w c a vs) : SqT w.K H a vs := by
  rcases r with ⟨r, _⟩ | r
  · exact .inl (Rd.up s r)
  · rcases r with (r | ⟨o, r⟩) | r
    · cases r
    · cases r
    · exact .inr r
theorem RepL.len : ∀ {ds : List D} {vs : List V}, RepL w c ds vs → ds.length = vs.length
  | [], vs, r => by obtain rfl : vs = [] := by simpa [RepL] using r
                    rfl
  | d :: ds, vs, r => by
    simp only [RepL] at r
    obtain ⟨x, xs, rfl, _, r⟩ := r
    simp [RepL.len r]
theorem RepL.get : ∀ {ds : List D} {vs : List V} {i : Nat} {d : D}, RepL w c ds vs → ds[i]? = some d → ∃ v, vs[i]? = some v ∧ Rep w c d v
  | [], _, _, _, _, q => by simp at q
  | x :: ds, vs, i, d, r, q => by
    simp only [RepL] at r
    obtain ⟨y, ys, rfl, r1, r2⟩ := r
    cases i with
    | zero => simp at q; subst q; exact ⟨y, rfl, r1⟩
    | succ i => simpa using RepL.get r2 (i := i) (by simpa using q)
theorem RepL.set {d : D} {v : V} (rv : Rep w c d v) : ∀ {ds : List D} {vs : List V} {i : Nat}, RepL w c ds vs → RepL w c (ds.set i d) (vs.set i v)
  | [], vs, i, r => by obtain rfl : vs = [] := by simpa [RepL] using r
                       simpa [RepL] using r
  | x :: ds, vs, i, r => by
    simp only [RepL] at r
    obtain ⟨y, ys, rfl, r1, r2⟩ := r
    cases i with
    | zero => simp only [List.set_cons_zero, RepL]; exact ⟨v, ys, rfl, rv, r2⟩
    | succ i => simp only [List.set_cons_succ, RepL]; exact ⟨y, ys.set i v, rfl, r1, RepL.set rv r2⟩
theorem RepL.append : ∀ {ds es : List D} {vs us : List V}, RepL w c ds vs → RepL w c es us → RepL w c (ds ++ es) (vs ++ us)
  | [], _, vs, _, r, r2 => by obtain rfl : vs = [] := by simpa [RepL] using r
                              simpa using r2
  | d :: ds, es, vs, us, r, r2 => by
    simp only [RepL] at r
    obtain ⟨y, ys, rfl, r1, r3⟩ := r
    simp only [List.cons_append, RepL]
    exact ⟨y, ys ++ us, rfl, r1, RepL.append r3 r2⟩
theorem RepL.cons {d : D} {v : V} {ds : List D} {vs : List V} (r : Rep w c d v) (rs : RepL w c ds vs) : RepL w c (d :: ds) (v :: vs) := by
  simp only [RepL]
  exact ⟨v, vs, rfl, r, rs⟩
theorem RepL.nil : RepL w c [] [] := by simp only [RepL]
theorem RepL.drop : ∀ {ds : List D} {vs : List V} (n : Nat), RepL w c ds vs → RepL w c (ds.drop n) (vs.drop n)
  | [], vs, n, r => by obtain rfl : vs = [] := by simpa [RepL] using r
                       simpa [RepL] using r
  | d :: ds, vs, n, r => by
    cases n with
    | zero => simpa using r
    | succ n =>
      simp only [RepL] at r
      obtain ⟨y, ys, rfl, r1, r3⟩ := r
      simpa using RepL.drop n r3
theorem RepL.take : ∀ {ds : List D} {vs : List V} (n : Nat), RepL w c ds vs → RepL w c (ds.take n) (vs.take n)
  | [], vs, n, r => by obtain rfl : vs = [] := by simpa [RepL] using r
                       simpa [RepL] using r
  | d :: ds, vs, n, r => by
    cases n with
    | zero => simp [RepL]
    | succ n =>
      simp only [RepL] at r
      obtain ⟨y, ys, rfl, r1, r3⟩ := r
      simp only [List.take_succ_cons]
      exact .cons r1 (RepL.take n r3)
theorem seqL_ok (R : Rel w c h H) {d : D} {v : V} {xs : List D} (r : Rep w c d v) (q : seqL h d = some xs) : ∃ a vs, v = .ref a ∧ SqL w.K H a vs ∧ RepL w c xs vs := by
  cases d with
  | lst ds =>
    simp only [seqL, Option.some.injEq] at q
    subst q
    simp only [Rep] at r
    obtain ⟨a, vs, rfl, l, r⟩ := r
    exact ⟨a, vs, rfl, l.sq R.sub, r⟩
  | fz ds =>
    simp only [seqL, Option.some.injEq] at q
    subst q
    simp only [Rep] at r
    obtain ⟨a, vs, rfl, l, r⟩ := r
    exact ⟨a, vs, rfl, l.sq R.sub, r⟩
  | ref k =>
    simp only [seqL] at q
    split at q
    · rename_i ys e
      cases q
      simp only [Rep] at r
      obtain ⟨rfl, hk⟩ := r
      obtain ⟨u, e1, vs, rfl, r⟩ := R.at_ k _ e
      exact ⟨_, vs, rfl, .of (R.sub _ _ e1), r⟩
    · cases q
  | _ => simp [seqL] at q
theorem seqM_ok (R : Rel w c h H) {d : D} {v : V} {xs : List D} (r : Rep w c d v) (q : seqM h d = some xs) : ∃ a vs, v = .ref a ∧ H a = some (.lst vs) ∧ RepL w c xs vs := by
  cases d with
  | lst ds =>
    simp only [seqM, Option.some.injEq] at q
    subst q
    simp only [Rep] at r
    obtain ⟨a, vs, rfl, l, r⟩ := r
    exact ⟨a, vs, rfl, R.sub _ _ l.1, r⟩
  | ref k =>
    simp only [seqM] at q
    split at q
    · rename_i ys e
      cases q
      simp only [Rep] at r
      obtain ⟨rfl, hk⟩ := r
      obtain ⟨u, e1, vs, rfl, r⟩ := R.at_ k _ e
      exact ⟨_, vs, rfl, R.sub _ _ e1, r⟩
    · cases q
  | _ => simp [seqM] at q
theorem seqT_ok (R : Rel w c h H) {d : D} {v : V} {xs : List D} (r : Rep w c d v) (q : seqT d = some xs) : ∃ a vs, v = .ref a ∧ SqT w.K H a vs ∧ RepL w c xs vs := by
  cases d with
  | tup ds =>
    simp only [seqT, Option.some.injEq] at q
    subst q
    simp only [Rep] at r
    obtain ⟨a, vs, rfl, l, r⟩ := r
    exact ⟨a, vs, rfl, l.sq R.sub, r⟩
  | _ => simp [seqT] at q
end

/-! ### operations on values -/
/-- a value is handed on, the heap as it is or grown -/
abbrev Gives (w : Wd) (c : Cf) (h : AH) (H : Hp) (z : D) (Q : VK) : Prop := ∀ c' v H', Rel w c' h H' → Ext c H c' H' → Rep w c' z v → Q v H'
theorem Gives.same {w : Wd} {c : Cf} {h : AH} {H : Hp} {z : D} {Q : VK} (g : Gives w c h H z Q) (R : Rel w c h H) {v : V} (r : Rep w c z v) : Q v H := g c v H R (.refl R.sub) r
theorem Gives.int {w : Wd} {c : Cf} {h : AH} {H : Hp} {z : Int} {Q : VK} (g : Gives w c h H (.int z) Q) (R : Rel w c h H) : Q (.int z) H := g.same R (by simp [Rep])
theorem Gives.bl {w : Wd} {c : Cf} {h : AH} {H : Hp} {z : Bool} {Q : VK} (g : Gives w c h H (.bl z) Q) (R : Rel w c h H) : Q (.bl z) H := g.same R (by simp [Rep])
theorem Gives.str {w : Wd} {c : Cf} {h : AH} {H : Hp} {z : Str} {Q : VK} (g : Gives w c h H (.str z) Q) (R : Rel w c h H) : Q (.str z) H := g.same R (by simp [Rep])
theorem Gives.non {w : Wd} {c : Cf} {h : AH} {H : Hp} {Q : VK} (g : Gives w c h H .non Q) (R : Rel w c h H) : Q .non H := g.same R (by simp [Rep])
theorem Gives.lst {w : Wd} {c : Cf} {h : AH} {H : Hp} {zs : List D} {vs : List V} {Q : VK} (g : Gives w c h H (.lst zs) Q) (R : Rel w c h H) (r : RepL w c zs vs) (p : Addr) (hp : H p = none) : Q (.ref p) (upd H p (.lst vs)) := by
  obtain ⟨R', E⟩ := R.lay (H' := upd H p (.lst vs)) (u := .lst vs) hp (fun a v e => by rw [upd_ne (ne_of_none e hp)]; exact e) upd_same
  refine g _ _ _ R' E ?_
  simp only [Rep]
  exact ⟨p, vs, rfl, ⟨upd_same, R.noidNew hp⟩, r.ext E⟩
theorem Gives.tup {w : Wd} {c : Cf} {h : AH} {H : Hp} {zs : List D} {vs : List V} {Q : VK} (g : Gives w c h H (.tup zs) Q) (R : Rel w c h H) (r : RepL w c zs vs) (p : Addr) (hp : H p = none) : Q (.ref p) (upd H p (.tup vs)) := by
  obtain ⟨R', E⟩ := R.lay (H' := upd H p (.tup vs)) (u := .tup vs) hp (fun a v e => by rw [upd_ne (ne_of_none e hp)]; exact e) upd_same
  refine g _ _ _ R' E ?_
  simp only [Rep]
  exact ⟨p, vs, rfl, .inl ⟨.inl upd_same, R.noidNew hp⟩, r.ext E⟩
def Op2 (w : Wd) (r : R2) (g : AH → D → D → Option D) : Prop := ∀ c h H x y z v u Q, Rel w c h H → Rep w c x v → Rep w c y u → g h x y = some z → Gives w c h H z Q → r v u H Q
def Op1 (w : Wd) (r : V → Hp → VK → Prop) (g : AH → D → Option D) : Prop := ∀ c h H x z v Q, Rel w c h H → Rep w c x v → g h x = some z → Gives w c h H z Q → r v H Q
def OpN (w : Wd) (r : List V → Hp → VK → Prop) (g : AH → List D → Option D) : Prop := ∀ c h H xs z vs Q, Rel w c h H → RepL w c xs vs → g h xs = some z → Gives w c h H z Q → r vs H Q
def Op1.or {w : Wd} {r r' : V → Hp → VK → Prop} {g g' : AH → D → Option D} (a : Op1 w r g) (b : Op1 w r' g') : Op1 w (fun x H Q => r x H Q ∨ r' x H Q) (fun h x => (g h x).or (g' h x)) := fun c h H x z v Q R r1 e G => by
  dsimp only at e
  cases q : g h x with
  | some z' => rw [q] at e; simp at e; subst e; exact .inl (a c h H x _ v Q R r1 q G)
  | none => rw [q] at e; exact .inr (b c h H x z v Q R r1 (by simpa using e) G)
theorem Op2.or {w : Wd} {r r' : R2} {g g' : AH → D → D → Option D} (a : Op2 w r g) (b : Op2 w r' g') : Op2 w (fun x y H Q => r x y H Q ∨ r' x y H Q) (fun h x y => (g h x y).or (g' h x y)) := fun c h H x y z v u Q R r1 r2 e G => by
  dsimp only at e
  cases q : g h x y with
  | some z' => rw [q] at e; simp at e; subst e; exact .inl (a c h H x y _ v u Q R r1 r2 q G)
  | none => rw [q] at e; exact .inr (b c h H x y z v u Q R r1 r2 (by simpa using e) G)
theorem OpN.or {w : Wd} {r r' : List V → Hp → VK → Prop} {g g' : AH → List D → Option D} (a : OpN w r g) (b : OpN w r' g') : OpN w (fun x H Q => r x H Q ∨ r' x H Q) (fun h x => (g h x).or (g' h x)) := fun c h H x z v Q R r1 e G => by
  dsimp only at e
  cases q : g h x with
  | some z' => rw [q] at e; simp at e; subst e; exact .inl (a c h H x _ v Q R r1 q G)
  | none => rw [q] at e; exact .inr (b c h H x z v Q R r1 (by simpa using e) G)

/-! ### expressions -/
def optR {α : Type} (o : Option α) (h : AH) : Res α := match o with
  | some z => .ok z h
  | none => .st
def eVar (i : Nat) : ME := fun s h => match s[i]? with
  | some (some d) => .ok d h
  | _ => .st
def eC (d : D) : ME := fun _ h => .ok d h
def eBin (g : AH → D → D → Option D) (a b : ME) : ME := fun s h => (a s h).bind fun x h1 => (b s h1).bind fun y h2 => optR (g h2 x y) h2
def eUn (g : AH → D → Option D) (a : ME) : ME := fun s h => (a s h).bind fun x h1 => optR (g h1 x) h1
def aNil : MA := fun _ h => .ok [] h
def aCons (a : ME) (b : MA) : MA := fun s h => (a s h).bind fun x h1 => (b s h1).bind fun xs h2 => .ok (x :: xs) h2
def eTup (a : MA) : ME := fun s h => (a s h).bind fun xs h1 => if xs.length ≤ 100000 then .ok (.tup xs) h1 else .st
def eLst (a : MA) : ME := fun s h => (a s h).bind fun xs h1 => if xs.length ≤ 100000 then .ok (.lst xs) h1 else .st
/-- a list that is written later -/
def eLstN (a : MA) : ME := fun s h => (a s h).bind fun xs h1 => if xs.length ≤ 100000 then .ok (.ref h1.n) (h1.new (.lst xs)) else .st
/-- a built-in function of values -/
def eFn (g : AH → List D → Option D) (a : MA) : ME := fun s h => (a s h).bind fun xs h1 => optR (g h1 xs) h1
def eIf (t : MT) (a b : ME) : ME := fun s h => (t s h).bind fun k h1 => if k = true then a s h1 else b s h1
theorem size5 {n : Nat} (h : n ≤ 100000) : n ≤ sizeLine := Nat.le_trans h (by rw [sizeLine_eq]; decide)
section
variable {X : Cx} {T : Nat → Addr} {W : WX} {a b e : Expr} {es : List Expr} {ma mb : ME} {mt : MT} {ms : MA} {pos : Pos}
theorem r_var (i : Nat) {x : Str} (hN : X.N[i]? = some x := by rfl) (hv : Vis X.env.scope x := by first | exact Or.inl rfl | exact Or.inr (Or.inl rfl) | exact Or.inr (Or.inr rfl)) (hd : (x == ("__debug__" : Str)) = false := by decide)
    (hcd : (x == ("__classdict__" : Str)) = false := by decide) : PE X (.Name x pos) (tM (Wd.mk X.K T) W (eVar i)) :=
  PEi (pe_var hN hv hd hcd) fun σ H Q ⟨c, s, h, R, S, o⟩ => by
    simp only [eVar] at o
    split at o
    · rename_i d e
      obtain ⟨v, e1, r⟩ := S.get e
      exact ⟨v, e1, o c v H R (.refl R.sub) r⟩
    · exact o.elim
theorem r_c {v : V} {d : D} (hv : ∀ c, Rep (Wd.mk X.K T) c d v) (h : PE X e (tC v)) : PE X e (tM (Wd.mk X.K T) W (eC d)) := PEi h fun σ H Q ⟨c, s, h, R, S, o⟩ => o c v H R (.refl R.sub) (hv c)
theorem r_int {i j} : PE X (.Constant (.int i) j pos) (tM (Wd.mk X.K T) W (eC (.int i))) := r_c (fun c => by simp [Rep]) pe_int
theorem r_bl {b j} : PE X (.Constant (.bool b) j pos) (tM (Wd.mk X.K T) W (eC (.bl b))) := r_c (fun c => by simp [Rep]) pe_bl
theorem r_non {j} : PE X (.Constant .none j pos) (tM (Wd.mk X.K T) W (eC .non)) := r_c (fun c => by simp [Rep]) pe_non
theorem r_str {x j} : PE X (.Constant (.str x) j pos) (tM (Wd.mk X.K T) W (eC (.str x))) := r_c (fun c => by simp [Rep]) pe_str
theorem r_glob {x : Str} {v : V} {d : D} {u : Value} (hm : X.mg x = some u) (hv : ∀ c, Rep (Wd.mk X.K T) c d v) (r : RelV v u) (hg : Gl X x := by rfl) (hd : (x == ("__debug__" : Str)) = false := by decide) : PE X (.Name x pos) (tM (Wd.mk X.K T) W (eC d)) := r_c hv (pe_glob hg hm r hd)
/-- two values, then an operation -/
theorem two {f : Sl → D → D → AH → Res D} {σ : L2.St} {H : Hp} {Q : VK} {R' : V → V → Hp → Prop} (z : tM (Wd.mk X.K T) W (fun s h => (ma s h).bind fun x h1 => (mb s h1).bind fun y h2 => f s x y h2) σ H Q)
    (k : ∀ c2 s h2 H2 x y v u, Rel (Wd.mk X.K T) c2 h2 H2 → RelS (Wd.mk X.K T) c2 s σ → Rep (Wd.mk X.K T) c2 x v → Rep (Wd.mk X.K T) c2 y u → Out (Wd.mk X.K T) c2 H2 (fun cls dd H' => W cls dd σ H') (Rep (Wd.mk X.K T)) Q (f s x y h2) → R' v u H2) :
    tM (Wd.mk X.K T) W ma σ H fun v H1 => tM (Wd.mk X.K T) W mb σ H1 fun u H2 => R' v u H2 := by
  obtain ⟨c, s, h, R, S, o⟩ := z
  refine ⟨c, s, h, R, S, (Out.bind (A := Rep (Wd.mk X.K T)) o).mono ?_⟩
  rintro v H1 ⟨c1, h1, x, R1, E1, r1, o1⟩
  refine ⟨c1, s, h1, R1, S.ext E1, (Out.bind (A := Rep (Wd.mk X.K T)) o1).mono ?_⟩
  rintro u H2 ⟨c2, h2, y, R2, E2, r2, o2⟩
  exact k c2 s h2 H2 x y v u R2 ((S.ext E1).ext E2) (r1.ext E2) r2 o2
theorem one {f : Sl → D → AH → Res D} {σ : L2.St} {H : Hp} {Q : VK} {R' : V → Hp → Prop} (z : tM (Wd.mk X.K T) W (fun s h => (ma s h).bind (f s)) σ H Q)
    (k : ∀ c2 s h2 H2 x v, Rel (Wd.mk X.K T) c2 h2 H2 → RelS (Wd.mk X.K T) c2 s σ → Rep (Wd.mk X.K T) c2 x v → Out (Wd.mk X.K T) c2 H2 (fun cls dd H' => W cls dd σ H') (Rep (Wd.mk X.K T)) Q (f s x h2) → R' v H2) :
    tM (Wd.mk X.K T) W ma σ H R' := by
  obtain ⟨c, s, h, R, S, o⟩ := z
  refine ⟨c, s, h, R, S, (Out.bind (A := Rep (Wd.mk X.K T)) o).mono ?_⟩
  rintro v H1 ⟨c1, h1, x, R1, E1, r1, o1⟩
  exact k c1 s h1 H1 x v R1 (S.ext E1) r1 o1
theorem oneA {f : Sl → List D → AH → Res D} {σ : L2.St} {H : Hp} {Q : VK} {R' : List V → Hp → Prop} (z : tM (Wd.mk X.K T) W (fun s h => (ms s h).bind (f s)) σ H Q)
    (k : ∀ c2 s h2 H2 x v, Rel (Wd.mk X.K T) c2 h2 H2 → RelS (Wd.mk X.K T) c2 s σ → RepL (Wd.mk X.K T) c2 x v → Out (Wd.mk X.K T) c2 H2 (fun cls dd H' => W cls dd σ H') (Rep (Wd.mk X.K T)) Q (f s x h2) → R' v H2) :
    tA (Wd.mk X.K T) W ms σ H R' := by
  obtain ⟨c, s, h, R, S, o⟩ := z
  refine ⟨c, s, h, R, S, (Out.bind (A := RepL (Wd.mk X.K T)) o).mono ?_⟩
  rintro v H1 ⟨c1, h1, x, R1, E1, r1, o1⟩
  exact k c1 s h1 H1 x v R1 (S.ext E1) r1 o1
theorem optOut {w : Wd} {c : Cf} {H : Hp} {E : XK} {o : Option D} {h : AH} {Q : VK} (z : Out w c H E (Rep w) Q (optR o h)) : ∃ d, o = some d ∧ Gives w c h H d Q := by
  cases o with
  | none => exact False.elim z
  | some d => exact ⟨d, rfl, z⟩
theorem r_op {op : Operator} {r : R2} {g : AH → D → D → Option D} (ho : OpR X (binaryOp op) r) (hg : Op2 (Wd.mk X.K T) r g) (ha : PE X a (tM (Wd.mk X.K T) W ma)) (hb : PE X b (tM (Wd.mk X.K T) W mb)) : PE X (.BinOp a op b pos) (tM (Wd.mk X.K T) W (eBin g ma mb)) :=
  PEi (pe_op ho ha hb) fun σ H Q z => two z fun c2 s h2 H2 x y v u R2 S2 r1 r2 o => by
    obtain ⟨d, e, G⟩ := optOut o
    exact hg c2 h2 H2 x y d v u Q R2 r1 r2 e G
theorem r_un {op : UnaryOp} {r : V → Hp → VK → Prop} {g : AH → D → Option D} (ho : UnR X (unaryOp op) r) (hg : Op1 (Wd.mk X.K T) r g) (ha : PE X a (tM (Wd.mk X.K T) W ma)) : PE X (.UnaryOp op a pos) (tM (Wd.mk X.K T) W (eUn g ma)) :=
  PEi (pe_un ho ha) fun σ H Q z => one z fun c2 s h2 H2 x v R2 S2 r1 o => by
    obtain ⟨d, e, G⟩ := optOut o
    exact hg c2 h2 H2 x d v Q R2 r1 e G
theorem r_cmp {op : CmpOp} {r : R2} {g : AH → D → D → Option D} (ho : OpR X (compareOp op) r) (hg : Op2 (Wd.mk X.K T) r g) (ha : PE X a (tM (Wd.mk X.K T) W ma)) (hb : PE X b (tM (Wd.mk X.K T) W mb)) (hm : behindInMarks op b = false) : PE X (.Compare a [op] [b] pos) (tM (Wd.mk X.K T) W (eBin g ma mb)) :=
  PEi (pe_cmpR ho ha hb hm) fun σ H Q z => two z fun c2 s h2 H2 x y v u R2 S2 r1 r2 o => by
    obtain ⟨d, e, G⟩ := optOut o
    exact hg c2 h2 H2 x y d v u Q R2 r1 r2 e G
theorem r_nil : PA X [] (tA (Wd.mk X.K T) W aNil) := PAi pa_nil fun σ H Q ⟨c, s, h, R, S, o⟩ => o c [] H R (.refl R.sub) .nil
theorem r_cons (ha : PE X e (tM (Wd.mk X.K T) W ma)) (hr : PA X es (tA (Wd.mk X.K T) W ms)) (hs : starEach (e :: es) X.env = (false, eval e X.env) :: starEach es X.env := by rfl) : PA X (e :: es) (tA (Wd.mk X.K T) W (aCons ma ms)) :=
  PAi (pa_cons ha hr hs) fun σ H Q z => by
    obtain ⟨c, s, h, R, S, o⟩ := z
    refine ⟨c, s, h, R, S, (Out.bind (A := Rep (Wd.mk X.K T)) o).mono ?_⟩
    rintro v H1 ⟨c1, h1, x, R1, E1, r1, o1⟩
    refine ⟨c1, s, h1, R1, S.ext E1, (Out.bind (A := RepL (Wd.mk X.K T)) o1).mono ?_⟩
    rintro vs H2 ⟨c2, h2, xs, R2, E2, r2, o2⟩
    exact o2 c2 (v :: vs) H2 R2 (.refl R2.sub) (.cons (r1.ext E2) r2)
theorem r_tup {x1} (ha : PA X es (tA (Wd.mk X.K T) W ms)) : PE X (.Tuple es x1 pos) (tM (Wd.mk X.K T) W (eTup ms)) :=
  PEi (pe_tup ha) fun σ H Q z => oneA z fun c2 s h2 H2 x v R2 S2 r1 o => by
    by_cases hl : x.length ≤ 100000
    · rw [if_pos hl] at o
      exact ⟨by rw [← r1.len]; exact size5 hl, fun p hp => Gives.tup (h := h2) o R2 r1 p hp⟩
    · rw [if_neg hl] at o
      exact o.elim
theorem r_lst (ha : PA X es (tA (Wd.mk X.K T) W ms)) : PE X (.List es pos) (tM (Wd.mk X.K T) W (eLst ms)) :=
  PEi (pe_lst ha) fun σ H Q z => oneA z fun c2 s h2 H2 x v R2 S2 r1 o => by
    by_cases hl : x.length ≤ 100000
    · rw [if_pos hl] at o
      exact ⟨by rw [← r1.len]; exact size5 hl, fun p hp => Gives.lst (h := h2) o R2 r1 p hp⟩
    · rw [if_neg hl] at o
      exact o.elim
theorem newId {w : Wd} {c : Cf} {h : AH} {H : Hp} {o : AO} {u : HO} {E : XK} {Q : VK} (z : Out w c H E (Rep w) Q (.ok (.ref h.n) (h.new o))) (R : Rel w c h H) (r : RepO w c o u) (p : Addr) (hp : H p = none) : Q (.ref p) (upd H p u) := by
  obtain ⟨R', E⟩ := R.add (H' := upd H p u) (u := u) hp (fun a v e => by rw [upd_ne (ne_of_none e hp)]; exact e) upd_same r
  refine z _ _ _ R' E ?_
  simp only [Rep]
  refine ⟨?_, ?_⟩
  · show V.ref p = V.ref (if h.n = c.n then p else _)
    rw [if_pos R.n.symm]
  · show h.n < c.n + 1
    rw [R.n]
    exact Nat.lt_succ_self _
theorem r_lstN (ha : PA X es (tA (Wd.mk X.K T) W ms)) : PE X (.List es pos) (tM (Wd.mk X.K T) W (eLstN ms)) :=
  PEi (pe_lst ha) fun σ H Q z => oneA z fun c2 s h2 H2 x v R2 S2 r1 o => by
    by_cases hl : x.length ≤ 100000
    · rw [if_pos hl] at o
      exact ⟨by rw [← r1.len]; exact size5 hl, fun p hp => newId o R2 ⟨v, rfl, r1⟩ p hp⟩
    · rw [if_neg hl] at o
      exact o.elim
theorem r_if (ht : PT X e (tT (Wd.mk X.K T) W mt)) (ha : PE X a (tM (Wd.mk X.K T) W ma)) (hb : PE X b (tM (Wd.mk X.K T) W mb)) : PE X (.IfExp e a b pos) (tM (Wd.mk X.K T) W (eIf mt ma mb)) :=
  PEi (pe_ifExp ht ha hb) fun σ H Q z => by
    obtain ⟨c, s, h, R, S, o⟩ := z
    refine ⟨c, s, h, R, S, (Out.bind (A := fun _ a b => a = b) o).mono ?_⟩
    rintro k H1 ⟨c1, h1, k', R1, E1, rfl, o1⟩
    cases k' with
    | true => exact ⟨c1, s, h1, R1, S.ext E1, o1⟩
    | false => exact ⟨c1, s, h1, R1, S.ext E1, o1⟩
end
end MP
set_option Elab.async false
set_option linter.all false
set_option maxRecDepth 100000
set_option maxHeartbeats 4000000
/-! mirrors: functions of the text, calls, methods, new instances -/
namespace MP
open PySem PySem.Spec L2
open PyProof.Rows hiding St

/-! ### room, and no repr under way -/
structure Rm (k : Nat) (A : Around) : Prop where
  r : Room k A
  g : A.guards = some []
theorem Rm.mono {j k : Nat} {A : Around} (z : Rm k A) (h : j ≤ k) : Rm j A := ⟨z.r.mono h, z.g⟩
theorem Rm.deeper {k : Nat} {A : Around} (z : Rm (k + 1) A) (env : Env) : Rm k (A.deeper env) := ⟨z.r.deeper env, z.g⟩
theorem Rm.make {k : Nat} {A : Around} (z : Rm (k + 1) A) (C : Addr) (us : List Value) (kw : List (Str × Value)) : Rm k (A.under (.builtin "type.__call__" ⟨.ref C :: us, kw⟩)) :=
  ⟨z.r.make C us kw, z.g⟩

/-- what a mirror promises of the def that it mirrors -/
def spM (w : Wd) (f : MF) : Sp := fun vs H Q E => ∃ c ds h, Rel w c h H ∧ RepL w c ds vs ∧ Out w c H E (Rep w) Q (f ds h)
/-- a def of the text: the body over the slots; ar parameters, n slots -/
def fnM (ar n : Nat) (b : MS) : MF := fun ds h => if ds.length = ar then
    match b (ds.map some ++ List.replicate (n - ar) none) h with
    | .nx _ h' => .ok .non h'
    | .rt d h' => .ok d h'
    | .ex e _ h' => .ex e h'
    | _ => .st
  else .st
/-- the def at f runs as the mirror says -/
structure Fn (P : Program) (w : World) (K : PySem.W.Frag) (T : Nat → Addr) (mg : Str → Option Value) (base : Heap) (k : Nat) (f : Addr) (fd : FuncData) (ps : List Str) (m : MF) : Prop where
  run : ∀ (A : Around) (outer : List Env) (s : Shared) (H : Hp) (args : Args) (us : List Value) (vs : List V) (Q : VK) (E : XK), Rm k A → Env0 P w K mg base A outer s H →
    BindsTo s fd args (ps.zip us) → Vals vs us → spM ⟨K, T⟩ m vs H Q E → codeAny (model P w) A (.call (.ref f) args) (CR (L2.CX P w) outer P w H s Q E) s
theorem Fn.mono {P : Program} {w : World} {K : PySem.W.Frag} {T : Nat → Addr} {mg : Str → Option Value} {base : Heap} {j k : Nat} {f : Addr} {fd : FuncData} {ps : List Str} {m : MF} (F : Fn P w K T mg base j f fd ps m) (h : j ≤ k) : Fn P w K T mg base k f fd ps m :=
  ⟨fun A outer s H args us vs Q E hr => F.run A outer s H args us vs Q E (hr.mono h)⟩

theorem start_rel {w : Wd} {c : Cf} : ∀ {ds : List D} {vs : List V} (k : Nat), RepL w c ds vs → RelS w c (ds.map some ++ List.replicate k none) (vs.map some ++ List.replicate k none)
  | [], vs, k, r => by
    obtain rfl : vs = [] := by simpa [RepL] using r
    show RelS w c (List.replicate k none) (List.replicate k none)
    induction k with
    | zero => exact rfl
    | succ k ih => exact ⟨none, _, rfl, ih⟩
  | d :: ds, vs, k, r => by
    simp only [RepL] at r
    obtain ⟨x, xs, rfl, r1, r2⟩ := r
    exact ⟨x, _, rfl, r1, start_rel k r2⟩

section
variable {P : Program} {w : World} {K : PySem.W.Frag} {T : Nat → Addr} {mg : Str → Option Value} {base : Heap}
/-- the body's mirror gives the def's. X: where the body runs -/
theorem Fn.of {x qual : Str} {params : Arguments} {body : List Stmt} {scope : Scope} {dvs : List V} {kws : List (Str × V)} {f : Addr} {fd : FuncData} {N ps : List Str} {k : Nat} {b : MS}
    (F : FunD K x qual params body scope dvs kws f fd) (S : FnScope N ps scope)
    (hb : ∀ (cdv : Value) (A : Around) (outer : List Env) (s : Shared) (H : Hp) (E : XK), Rm k (A.deeper (envOfC qual scope s.heap.objs.size f cdv)) →
      PSs (cxOf (L2.CX P w) P w K mg base N qual scope f cdv A outer s H E) body (tS ⟨K, T⟩ (fun cls d _ H' => E cls d H') b)) :
    Fn P w K T mg base (k + 1) f fd ps (fnM ps.length N.length b) := by
  obtain ⟨oc, od, dV, kV, doc, pm, an, cdv, ct, osl, rfl, lk, hcd, _, _⟩ := F.ex
  refine ⟨fun A outer s H args us vs Q E hr e0 hbi r hsp => ?_⟩
  obtain ⟨c, ds, h, R, rl, o⟩ := hsp
  have dl : ds.length = ps.length := Classical.byContradiction fun z => by
    unfold fnM at o
    rw [if_neg z] at o
    exact o
  have hl : vs.length = ps.length := rl.len.symm.trans dl
  have kb := fun a o e => (e0.bs a o e).1
  have KX : K.In s.heap := e0.mod.kin.keeps kb
  have lim := e0.mod.nolimit.keeps kb
  have kinds : ∀ y ∈ ps.zip us, scope.names.lookup y.1 = some .local ∨ (scope.names.lookup y.1 = some .cell ∧ ((cellsFrom (s.heap.objs.size + 1) scope.names []).lookup y.1).isSome = true) := fun y hy =>
    (S.par y.1 (List.of_mem_zip (show (y.1, y.2) ∈ _ from hy)).1).imp id fun q => ⟨q, PySem.W.cellsFrom_some _ _ _ (.inl q)⟩
  refine codeAny_call_function hr.r.depth (KX _ _ lk) rfl S.co S.gen rfl (PySem.W.codeRec_of KX hcd) (hbi _ _ _ _ (wpAny_newFunctionEnv_cells S.kind kinds fun env he s1 x => ?_))
  subst he
  refine ⟨lim.keeps x.toInCall.keep, codeAny_func ?_⟩
  have ht := hb cdv A outer s H E (hr.deeper _)
  have I := inv_start (CX := L2.CX P w) (E := E) S hr.r.hd e0 hl r x
  have go : tS ⟨K, T⟩ (fun cls d _ H' => E cls d H') b { nx := fun _ H' => Q .non H', rt := Q } (start N vs) H := by
    refine ⟨c, ds.map some ++ List.replicate (N.length - ps.length) none, h, R, ?_, ?_⟩
    · have e := start_rel (N.length - ps.length) rl
      rw [← hl] at e ⊢
      exact e
    · unfold fnM at o
      rw [if_pos dl] at o
      cases q : b (ds.map some ++ List.replicate (N.length - ps.length) none) h with
      | nx s' h' => rw [q] at o; exact fun c' σ' H' R' e' r' => o c' .non H' R' e' (by simp [Rep])
      | rt d h' => rw [q] at o; exact o
      | ex e s' h' => rw [q] at o; exact fun c' cls dd σ' H' R' e' _ r' => o c' cls dd H' R' e' r'
      | bk s' h' => rw [q] at o; exact o.elim
      | ct s' h' => rw [q] at o; exact o.elim
      | st => rw [q] at o; exact o.elim
  refine wpAny_mono (ht.run [] s1 (start N vs) H _ I go) (fun fl s' hs => ?_) fun e s' hs => hs
  cases fl with
  | ret u =>
    obtain ⟨v, σ', H', J, rv, q⟩ := hs
    exact ⟨v, H', J.os, J.bare, J.base, J.hok, rv, q⟩
  | next =>
    obtain ⟨σ', H', J, q⟩ := hs
    exact ⟨.non, H', J.os, J.bare, J.base, J.hok, rfl, q⟩
  | brk => exact hs.elim fun _ z => z.elim fun _ z => z.2.elim
  | cont => exact hs.elim fun _ z => z.elim fun _ z => z.2.elim
end

/-! ### how arguments come to parameters -/
/-- whence a parameter's value: the written ones, the defaults, the keyword-only defaults, the keywords -/
inductive Src where
  | us | its | mv | ws
def pick {α : Type} (us its mv ws : List α) : Src → List α
  | .us => us
  | .its => its
  | .mv => mv
  | .ws => ws
def gSel (l : List (Src × Nat)) {α : Type} (us its mv ws : List α) : List α := l.flatMap fun p => ((pick us its mv ws p.1).drop p.2).take 1
theorem gSel_vals {a a1 a2 a3 : List V} {b b1 b2 b3 : List Value} (h : Vals a b) (h1 : Vals a1 b1) (h2 : Vals a2 b2) (h3 : Vals a3 b3) : ∀ l : List (Src × Nat), Vals (gSel l a a1 a2 a3) (gSel l b b1 b2 b3)
  | [] => .nil
  | p :: l => by
    have e : ∀ q : Src, Vals (pick a a1 a2 a3 q) (pick b b1 b2 b3 q) := fun q => by cases q <;> assumption
    exact ((e p.1).drop p.2 |>.take 1).append (gSel_vals h h1 h2 h3 l)
theorem gSel_rep {w : Wd} {c : Cf} {a a1 a2 a3 : List D} {b b1 b2 b3 : List V} (h : RepL w c a b) (h1 : RepL w c a1 b1) (h2 : RepL w c a2 b2) (h3 : RepL w c a3 b3) : ∀ l : List (Src × Nat), RepL w c (gSel l a a1 a2 a3) (gSel l b b1 b2 b3)
  | [] => .nil
  | p :: l => by
    have e : ∀ q : Src, RepL w c (pick a a1 a2 a3 q) (pick b b1 b2 b3 q) := fun q => by cases q <;> assumption
    exact ((e p.1).drop p.2 |>.take 1).append (gSel_rep h h1 h2 h3 l)
/-- n written values and the keywords ks come to the parameters as l says; dv, mv: the defaults -/
structure Bd (K : PySem.W.Frag) (fd : FuncData) (ps : List Str) (n : Nat) (ks : List Str) (l : List (Src × Nat)) (dv mv : List V) : Prop where
  to : ∃ its mw : List Value, Vals dv its ∧ Vals mv mw ∧ ∀ (s : Shared) (us ws : List Value), K.In s.heap → us.length = n → ws.length = ks.length → BindsTo s fd ⟨us, ks.zip ws⟩ (ps.zip (gSel l us its mw ws))
section
variable {K : PySem.W.Frag} {x qual : Str} {params : Arguments} {body : List Stmt} {scope : Scope} {dvs : List V} {kws : List (Str × V)} {f : Addr} {fd : FuncData} {ps : List Str} {n : Nat} {ks : List Str} {l : List (Src × Nat)}
/-- no default is asked for -/
theorem bd_n (F : FunD K x qual params body scope [] kws f fd) (h : ∀ (kV doc pm : Value) (an : Option Addr) (cdv ct : Value) (us ws : List Value), us.length = n → ws.length = ks.length →
    bindArgs (PySem.W.fnOf x qual params body scope .none kV doc pm an cdv ct) ⟨us, ks.zip ws⟩ = pure (ps.zip (gSel l us [] [] ws))) : Bd K fd ps n ks l [] [] := by
  obtain ⟨oc, od, dV, kV, doc, pm, an, cdv, ct, osl, rfl, lk, hcd, hD, hK⟩ := F.ex
  rcases hD with ⟨_, rfl⟩ | ⟨e, _⟩
  · exact ⟨[], [], .nil, .nil, fun s us ws _ h1 h2 => .of_eq (h kV doc pm an cdv ct us ws h1 h2)⟩
  · exact absurd rfl e
/-- keyword-only defaults alone -/
theorem bd_k (F : FunD K x qual params body scope [] kws f fd) (ms : List (Str × V)) (hk : kws ≠ []) (hms : ∀ q ∈ ms, q ∈ kws) (h : ∀ (D : Addr) (doc pm : Value) (an : Option Addr) (cdv ct : Value) (us mv ws : List Value), us.length = n → mv.length = ms.length → ws.length = ks.length →
    KwChain D ((ms.map (·.1)).zip mv) (bindArgs (PySem.W.fnOf x qual params body scope .none (.ref D) doc pm an cdv ct) ⟨us, ks.zip ws⟩) (ps.zip (gSel l us [] mv ws))) : Bd K fd ps n ks l [] (ms.map (·.2)) := by
  obtain ⟨oc, od, dV, kV, doc, pm, an, cdv, ct, osl, rfl, lk, hcd, hD, hK⟩ := F.ex
  rcases hD with ⟨_, rfl⟩ | ⟨e, _⟩
  · rcases hK with e | ⟨D, rfl, hq⟩
    · exact absurd e hk
    · obtain ⟨mv, hl, rk, hks⟩ := kwd_vals (ms := ms) fun q hm => hq q (hms q hm)
      exact ⟨[], mv, .nil, rk, fun s us ws X h1 h2 => BindsTo.of_looks fun M => KwChain.looks X hks (h D doc pm an cdv ct us mv ws h1 hl h2)⟩
  · exact absurd rfl e
/-- positional defaults alone -/
theorem bd_d (F : FunD K x qual params body scope dvs kws f fd) (hd : dvs ≠ []) (h : ∀ (T : Addr) (kV doc pm : Value) (an : Option Addr) (cdv ct : Value) (us its ws : List Value), us.length = n → its.length = dvs.length → ws.length = ks.length →
    ∃ k, bindArgs (PySem.W.fnOf x qual params body scope (.ref T) kV doc pm an cdv ct) ⟨us, ks.zip ws⟩ = seqItems? (.ref T) >>= k ∧ k (some its.toArray) = pure (ps.zip (gSel l us its [] ws))) : Bd K fd ps n ks l dvs [] := by
  obtain ⟨oc, od, dV, kV, doc, pm, an, cdv, ct, osl, rfl, lk, hcd, hD, hK⟩ := F.ex
  rcases hD with ⟨e, _⟩ | ⟨_, T, o, its, m, rfl, lT, oT, rT⟩
  · exact absurd e hd
  · refine ⟨its, [], rT, .nil, fun s us ws X h1 h2 => ?_⟩
    obtain ⟨k, e1, e2⟩ := h T kV doc pm an cdv ct us its ws h1 rT.length.symm h2
    refine BindsTo.of_looks fun M => ?_
    rw [e1]
    exact looks_items X lT oT (.of_pure e2)
/-- both -/
theorem bd_dk (F : FunD K x qual params body scope dvs kws f fd) (ms : List (Str × V)) (hd : dvs ≠ []) (hk : kws ≠ []) (hms : ∀ q ∈ ms, q ∈ kws)
    (h : ∀ (T D : Addr) (doc pm : Value) (an : Option Addr) (cdv ct : Value) (us its mv ws : List Value), us.length = n → its.length = dvs.length → mv.length = ms.length → ws.length = ks.length →
      ∃ k, bindArgs (PySem.W.fnOf x qual params body scope (.ref T) (.ref D) doc pm an cdv ct) ⟨us, ks.zip ws⟩ = seqItems? (.ref T) >>= k ∧ KwChain D ((ms.map (·.1)).zip mv) (k (some its.toArray)) (ps.zip (gSel l us its mv ws))) : Bd K fd ps n ks l dvs (ms.map (·.2)) := by
  obtain ⟨oc, od, dV, kV, doc, pm, an, cdv, ct, osl, rfl, lk, hcd, hD, hK⟩ := F.ex
  rcases hD with ⟨e, _⟩ | ⟨_, T, o, its, m, rfl, lT, oT, rT⟩
  · exact absurd e hd
  · rcases hK with e | ⟨D, rfl, hq⟩
    · exact absurd e hk
    · obtain ⟨mv, hl, rk, hks⟩ := kwd_vals (ms := ms) fun q hm => hq q (hms q hm)
      refine ⟨its, mv, rT, rk, fun s us ws X h1 h2 => ?_⟩
      obtain ⟨k, e1, e2⟩ := h T D doc pm an cdv ct us its mv ws h1 rT.length.symm hl h2
      refine BindsTo.of_looks fun M => ?_
      rw [e1]
      exact looks_items X lT oT (KwChain.looks X hks e2)
end

/-! ### the arguments of a call, whatever is called -/
structure CArgs (X : Cx) (es : List Expr) (kws : List Keyword) (pos : Pos) (ks : List Str) (ta tk : TA) : Prop where
  run : ∀ (g : Value) (first : List Value), PySem.W.keepIn X.K g = true → ∀ (pins : List (Addr × Obj)) (s : Shared) (σ : L2.St) (H : Hp) (R : List V → List V → Hp → Prop) (Q : Value → Shared → Prop), Inv X pins σ H s →
    (ta σ H fun vs H1 => tk σ H1 fun zs H2 => R vs zs H2) →
    (∀ us ws vs zs H2 s2, Inv X pins σ H2 s2 → Vals vs us → Vals zs ws → R vs zs H2 → wpAny (model X.prog X.w) X.A (call g (first ++ us) (ks.zip ws)) Q X.xe s2) →
    wpAny (model X.prog X.w) X.A (callWith pos g first (backTo pos (starEach es X.env)) (backToKw pos (keywordEach kws X.env))) Q X.xe s
section
variable {X : Cx} {e : Expr} {es : List Expr} {kws : List Keyword} {pos : Pos} {ks : List Str} {ta tk : TA}
theorem ca0 : CArgs X [] [] pos [] tNil tNil := ⟨fun g first hk pins s σ H R Q I h go => PySem.W.callWith_K0 I.kIn hk (go [] [] [] [] H s I .nil .nil h)⟩
theorem caP (ha : PA X (e :: es) ta) (he : starEach (e :: es) X.env = (false, eval e X.env) :: starEach es X.env := by rfl) (hpl : (backTo pos (starEach es X.env)).any (·.1) = false := by rfl) : CArgs X (e :: es) [] pos [] ta tNil :=
  ⟨fun g first hk pins s σ H R Q I h go => PySem.W.callWith_K (h₀ := X.base) I.ok.mod.kin hk
    (thn (ha.run pos pins s σ H _ I h) fun us s1 ⟨vs, H1, I1, r, q⟩ => ⟨I1.kIn, go us [] vs [] H1 s1 I1 r .nil q⟩) he hpl⟩
theorem caK (hkw : PK X kws tk) (hall : (backToKw pos (keywordEach kws X.env)).all (·.1.isSome) = true := by rfl) (hks : (backToKw pos (keywordEach kws X.env)).filterMap (·.1) = ks := by rfl)
    (hpl : ((backTo pos (starEach [] X.env)).any (·.1) || (backToKw pos (keywordEach kws X.env)).any (·.1.isNone)) = false := by rfl) : CArgs X [] kws pos ks tNil tk :=
  ⟨fun g first hk pins s σ H R Q I h go => PySem.W.callWith_KW0 (h₀ := X.base) I.ok.mod.kin hk hall
    (thn (hkw.run pos pins s σ H _ I h) fun ws s2 ⟨zs, H2, I2, rz, q⟩ => ⟨I2.kIn, by rw [hks]; exact go [] ws [] zs H2 s2 I2 .nil rz q⟩) hpl⟩
theorem caPK (ha : PA X (e :: es) ta) (hkw : PK X kws tk) (hall : (backToKw pos (keywordEach kws X.env)).all (·.1.isSome) = true := by rfl) (hks : (backToKw pos (keywordEach kws X.env)).filterMap (·.1) = ks := by rfl)
    (he : starEach (e :: es) X.env = (false, eval e X.env) :: starEach es X.env := by rfl) (hpl : ((backTo pos (starEach (e :: es) X.env)).any (·.1) || (backToKw pos (keywordEach kws X.env)).any (·.1.isNone)) = false := by rfl) :
    CArgs X (e :: es) kws pos ks ta tk :=
  ⟨fun g first hk pins s σ H R Q I h go => PySem.W.callWith_KW (h₀ := X.base) I.ok.mod.kin hk hall
    (thn (ha.run pos pins s σ H _ I h) fun us s1 ⟨vs, H1, I1, r, q⟩ => thn (hkw.run pos pins s1 σ H1 _ I1 q) fun ws s2 ⟨zs, H2, I2, rz, q2⟩ => ⟨I2.kIn, by rw [hks]; exact go us ws vs zs H2 s2 I2 r rz q2⟩) hpl he⟩
end

section
variable {X : Cx} {T : Nat → Addr} {W : WX} {e : Expr} {es : List Expr} {kws : List Keyword} {pos : Pos} {ks : List Str} {ma mk : MA}
theorem tA_nil {σ : L2.St} {H : Hp} {Q : List V → Hp → Prop} (z : tA (Wd.mk X.K T) W aNil σ H Q) : Q [] H := by
  obtain ⟨c, s, h, R, S, o⟩ := z
  exact o c [] H R (.refl R.sub) .nil
theorem tA_mono {σ : L2.St} {H : Hp} {Q Q' : List V → Hp → Prop} (z : tA (Wd.mk X.K T) W ma σ H Q) (q : ∀ vs H', Q vs H' → Q' vs H') : tA (Wd.mk X.K T) W ma σ H Q' := by
  obtain ⟨c, s, h, R, S, o⟩ := z
  exact ⟨c, s, h, R, S, o.mono q⟩
theorem ca0m : CArgs X [] [] pos [] (tA (Wd.mk X.K T) W aNil) (tA (Wd.mk X.K T) W aNil) := ⟨fun g first hk pins s σ H R Q I h go => ca0.run g first hk pins s σ H R Q I (tA_nil (tA_nil h)) go⟩
theorem caPm (ha : PA X (e :: es) (tA (Wd.mk X.K T) W ma)) (he : starEach (e :: es) X.env = (false, eval e X.env) :: starEach es X.env := by rfl) (hpl : (backTo pos (starEach es X.env)).any (·.1) = false := by rfl) : CArgs X (e :: es) [] pos [] (tA (Wd.mk X.K T) W ma) (tA (Wd.mk X.K T) W aNil) :=
  ⟨fun g first hk pins s σ H R Q I h go => (caP ha he hpl).run g first hk pins s σ H R Q I (tA_mono h fun _ _ q => tA_nil q) go⟩
theorem caKm (hkw : PK X kws (tA (Wd.mk X.K T) W mk)) (hall : (backToKw pos (keywordEach kws X.env)).all (·.1.isSome) = true := by rfl) (hks : (backToKw pos (keywordEach kws X.env)).filterMap (·.1) = ks := by rfl)
    (hpl : ((backTo pos (starEach [] X.env)).any (·.1) || (backToKw pos (keywordEach kws X.env)).any (·.1.isNone)) = false := by rfl) : CArgs X [] kws pos ks (tA (Wd.mk X.K T) W aNil) (tA (Wd.mk X.K T) W mk) :=
  ⟨fun g first hk pins s σ H R Q I h go => (caK hkw hall hks hpl).run g first hk pins s σ H R Q I (tA_nil h) go⟩
theorem caPKm (ha : PA X (e :: es) (tA (Wd.mk X.K T) W ma)) (hkw : PK X kws (tA (Wd.mk X.K T) W mk)) (hall : (backToKw pos (keywordEach kws X.env)).all (·.1.isSome) = true := by rfl) (hks : (backToKw pos (keywordEach kws X.env)).filterMap (·.1) = ks := by rfl)
    (he : starEach (e :: es) X.env = (false, eval e X.env) :: starEach es X.env := by rfl) (hpl : ((backTo pos (starEach (e :: es) X.env)).any (·.1) || (backToKw pos (keywordEach kws X.env)).any (·.1.isNone)) = false := by rfl) :
    CArgs X (e :: es) kws pos ks (tA (Wd.mk X.K T) W ma) (tA (Wd.mk X.K T) W mk) := caPK ha hkw hall hks he hpl
end

/-! ### calls by mirrors -/
def eCall (f : MF) (n m : Nat) (l : List (Src × Nat)) (dd md : List D) (a b : MA) : ME := fun s h => (a s h).bind fun xs h1 => (b s h1).bind fun zs h2 => if xs.length = n ∧ zs.length = m then f (gSel l xs dd md zs) h2 else .st
def insOf (h : AH) : D → Option (Nat × Nat × List (Str × D))
  | .ref k => match h.g k with
    | some (.ins c fs) => some (k, c, fs)
    | _ => none
  | _ => none
/-- o.m(..), o an instance of the class cl -/
def eMeth (cl : Nat) (nm : Str) (f : MF) (n m : Nat) (l : List (Src × Nat)) (dd md : List D) (o : ME) (a b : MA) : ME := fun s h => (o s h).bind fun x h0 => match insOf h0 x with
  | some (_, c, fs) => if c = cl ∧ fs.lookup nm = none then (a s h0).bind fun xs h1 => (b s h1).bind fun zs h2 => if xs.length = n ∧ zs.length = m then f (gSel l (x :: xs) dd md zs) h2 else .st else .st
  | none => .st
/-- C(..): a new instance, then __init__ -/
def eMake (cl : Nat) (f : MF) (n m : Nat) (l : List (Src × Nat)) (dd md : List D) (a b : MA) : ME := fun s h => (a s h).bind fun xs h1 => (b s h1).bind fun zs h2 =>
  if xs.length = n ∧ zs.length = m then (f (gSel l (.ref h2.n :: xs) dd md zs) (h2.new (.ins cl []))).bind fun r h3 => match r with
    | .non => .ok (.ref h2.n) h3
    | _ => .st
  else .st

section
variable {X : Cx} {T : Nat → Addr} {W : WX} {k n : Nat} {f C : Addr} {fd : FuncData} {ps ks : List Str} {mf : MF} {l : List (Src × Nat)} {dd md : List D} {dv mv : List V} {e o : Expr} {es : List Expr} {kws : List Keyword} {pos p apos : Pos} {ma mk : MA} {mo : ME} {x m : Str}
/-- the callee runs -/
theorem run_m {pins : List (Addr × Obj)} {σ : L2.St} {H : Hp} {s : Shared} {Q : VK} {us : List Value} {args : Args} {vs : List V} (tk : Takes X W) (F : Fn X.prog X.w X.K T X.mg X.base k f fd ps mf) (hr : Rm k X.A) (hb : BindsTo s fd args (ps.zip us))
    (I : Inv X pins σ H s) (r : Vals vs us) (h : spM (Wd.mk X.K T) mf vs H Q fun cls dd H' => W cls dd σ H') : wpAny (model X.prog X.w) X.A (call (.ref f) args.pos args.kw) (EP X pins σ Q) X.xe s :=
  wpAny_call (by
    obtain ⟨ap, ak⟩ := args
    refine codeAny_mono (F.run X.A X.stack s H ⟨ap, ak⟩ us vs Q (WE W σ) hr I.env0 hb r h) fun z s' hq => ?_
    cases z with
    | error e => exact passAt tk σ pins H s e s' I hq
    | ok fl =>
      cases fl with
      | ret u => exact I.after hq
      | next => exact False.elim hq
      | brk => exact False.elim hq
      | cont => exact False.elim hq)
theorem lens {w : Wd} {c : Cf} {xs zs : List D} {vs us : List V} {n m : Nat} (r1 : RepL w c xs vs) (r2 : RepL w c zs us) (h : xs.length = n ∧ zs.length = m) : vs.length = n ∧ us.length = m := ⟨by rw [← r1.len]; exact h.1, by rw [← r2.len]; exact h.2⟩
/-- two argument lists, then what is wanted of the values -/
theorem twoA {α β : Type} {A : Cf → α → β → Prop} {f : List D → List D → AH → Res α} {c : Cf} {s : Sl} {h : AH} {σ : L2.St} {H : Hp} {Q : β → Hp → Prop} {R' : List V → List V → Hp → Prop} (R : Rel (Wd.mk X.K T) c h H) (S : RelS (Wd.mk X.K T) c s σ)
    (z : Out (Wd.mk X.K T) c H (fun cls dd H' => W cls dd σ H') A Q ((ma s h).bind fun x h1 => (mk s h1).bind fun y h2 => f x y h2))
    (k : ∀ c2 h2 H2 x y v u, Rel (Wd.mk X.K T) c2 h2 H2 → RelS (Wd.mk X.K T) c2 s σ → Ext c H c2 H2 → RepL (Wd.mk X.K T) c2 x v → RepL (Wd.mk X.K T) c2 y u → Out (Wd.mk X.K T) c2 H2 (fun cls dd H' => W cls dd σ H') A Q (f x y h2) → R' v u H2) :
    tA (Wd.mk X.K T) W ma σ H fun v H1 => tA (Wd.mk X.K T) W mk σ H1 fun u H2 => R' v u H2 := by
  refine ⟨c, s, h, R, S, (Out.bind (A := RepL (Wd.mk X.K T)) z).mono ?_⟩
  rintro v H1 ⟨c1, h1, x, R1, E1, r1, o1⟩
  refine ⟨c1, s, h1, R1, S.ext E1, (Out.bind (A := RepL (Wd.mk X.K T)) o1).mono ?_⟩
  rintro u H2 ⟨c2, h2, y, R2, E2, r2, o2⟩
  exact k c2 h2 H2 x y v u R2 ((S.ext E1).ext E2) (E1.trans E2) (r1.ext E2) r2 o2
theorem r_call (tk : Takes X W) (F : Fn X.prog X.w X.K T X.mg X.base k f fd ps mf) (hr : Rm k X.A) (hm : X.mg x = some (.ref f)) (hk : PySem.W.keepIn X.K (.ref f) = true) (hb : Bd X.K fd ps n ks l dv mv) (hs : ∀ c, RepL (Wd.mk X.K T) c dd dv) (hs2 : ∀ c, RepL (Wd.mk X.K T) c md mv)
    (ha : CArgs X es kws pos ks (tA (Wd.mk X.K T) W ma) (tA (Wd.mk X.K T) W mk)) (hg : Gl X x := by rfl) (hdb : (x == ("__debug__" : Str)) = false := by decide) : PE X (.Call (.Name x p) es kws pos) (tM (Wd.mk X.K T) W (eCall mf n ks.length l dd md ma mk)) := by
  refine ⟨fun pins s σ H Q I z => wpAny_Call_Name_kw (ld_glob I hg hm ?_ hdb)⟩
  obtain ⟨c, sl, h, R, S, o⟩ := z
  refine ha.run (.ref f) [] hk pins s σ H (fun vs zs H2 => vs.length = n ∧ zs.length = ks.length ∧ spM (Wd.mk X.K T) mf (gSel l vs dv mv zs) H2 Q fun cls dd H' => W cls dd σ H') _ I ?_ ?_
  · refine twoA R S o fun c2 h2 H2 x y v u R2 S2 E2 r1 r2 o2 => ?_
    by_cases hl : x.length = n ∧ y.length = ks.length
    · rw [if_pos hl] at o2
      exact ⟨(lens r1 r2 hl).1, (lens r1 r2 hl).2, c2, _, h2, R2, gSel_rep r1 (hs c2) (hs2 c2) r2 l, o2⟩
    · rw [if_neg hl] at o2
      exact o2.elim
  · intro us ws vs zs H2 s2 I2 r1 r2 ⟨l1, l2, q⟩
    obtain ⟨its, mw, v1, v2, B⟩ := hb.to
    exact run_m (args := ⟨us, ks.zip ws⟩) tk F hr (B s2 us ws I2.kIn (r1.length.symm.trans l1) (r2.length.symm.trans l2)) I2 (gSel_vals r1 v1 v2 r2 l) q
theorem insOf_eq {h : AH} {d : D} {k c : Nat} {fs : List (Str × D)} (e : insOf h d = some (k, c, fs)) : d = .ref k ∧ h.g k = some (.ins c fs) := by
  cases d with
  | ref j =>
    simp only [insOf] at e
    split at e
    · rename_i c' fs' q
      simp only [Option.some.injEq, Prod.mk.injEq] at e
      obtain ⟨rfl, rfl, rfl⟩ := e
      exact ⟨rfl, q⟩
    · cases e
  | _ => simp [insOf] at e
theorem RepKV.lookup {w : Wd} {c : Cf} : ∀ {fs : List (Str × D)} {vs : List (Str × V)} {f : Str}, RepKV w c fs vs → (fs.lookup f = none ∧ vs.lookup f = none) ∨ ∃ d v, fs.lookup f = some d ∧ vs.lookup f = some v ∧ Rep w c d v
  | [], vs, f, r => by
    obtain rfl : vs = [] := r
    exact .inl ⟨rfl, rfl⟩
  | (g, d) :: fs, vs, f, r => by
    obtain ⟨y, ys, rfl, r1, r2⟩ := r
    rw [List.lookup_cons, List.lookup_cons]
    cases hb : f == g with
    | true => exact .inr ⟨d, y, rfl, rfl, r1⟩
    | false => exact RepKV.lookup r2
theorem RepKV.none {w : Wd} {c : Cf} {fs : List (Str × D)} {vs : List (Str × V)} {f : Str} (r : RepKV w c fs vs) (h : fs.lookup f = none) : vs.lookup f = none := by
  rcases r.lookup (f := f) with ⟨_, q⟩ | ⟨d, v, q, _⟩
  · exact q
  · rw [q] at h; cases h
/-- an instance as it lies -/
theorem insAt {w : Wd} {c : Cf} {h : AH} {H : Hp} (R : Rel w c h H) {d : D} {v : V} (r : Rep w c d v) {k cl : Nat} {fs : List (Str × D)} (e : insOf h d = some (k, cl, fs)) :
    d = .ref k ∧ h.g k = some (.ins cl fs) ∧ v = .ref (c.ρ k) ∧ ∃ dx vs, c.G (c.ρ k) = some (.ins (w.T cl) dx vs) ∧ H (c.ρ k) = some (.ins (w.T cl) dx vs) ∧ RepKV w c fs vs := by
  obtain ⟨rfl, q⟩ := insOf_eq e
  simp only [Rep] at r
  obtain ⟨u, e1, dx, vs, rfl, rf⟩ := R.at_ _ _ q
  exact ⟨rfl, q, r.1, dx, vs, e1, R.sub _ _ e1, rf⟩
theorem r_meth {cl : Nat} {pl : Sem Bool} (tk : Takes X W) (he : PE X o (tM (Wd.mk X.K T) W mo)) (c : Cls X.K (T cl)) (hm : Meth X.K (T cl) m f) (F : Fn X.prog X.w X.K T X.mg X.base k f fd ps mf) (hr : Rm k X.A) (hb : Bd X.K fd ps (n + 1) ks l dv mv) (hs : ∀ c, RepL (Wd.mk X.K T) c dd dv) (hs2 : ∀ c, RepL (Wd.mk X.K T) c md mv)
    (ha : CArgs X es kws pos ks (tA (Wd.mk X.K T) W ma) (tA (Wd.mk X.K T) W mk))
    (ht : eval (.Call (.Attribute o m apos) es kws pos) X.env = (do
      let ov ← eval o X.env
      standAt apos.atName
      let (f, first) ← holding [ov] (getMethod ov m pl)
      callWith pos f first (backTo pos (starEach es X.env)) (backToKw pos (keywordEach kws X.env))) := by rfl) :
    PE X (.Call (.Attribute o m apos) es kws pos) (tM (Wd.mk X.K T) W (eMeth cl m mf n ks.length l dd md mo ma mk)) := by
  refine ⟨fun pins s σ H Q I z => ?_⟩
  obtain ⟨c0, sl, h, R, S, z⟩ := z
  have w1 := he.run pins s σ H _ I ⟨c0, sl, h, R, S, Out.bind (A := Rep (Wd.mk X.K T)) z⟩
  refine PySem.W.methodCall_KW (pl := pl) (thn w1 fun u s1 ⟨y, H1, I1, ry, c1, h1, d, R1, E1, rd, o1⟩ => ?_) ht
  split at o1
  · rename_i kk cc fs ei
    by_cases hc : cc = cl ∧ fs.lookup m = none
    · rw [if_pos hc] at o1
      obtain ⟨rfl, q, rfl, dx, vs, e1, e2, rf⟩ := insAt R1 rd ei
      rw [hc.1] at e2
      obtain rfl : u = Value.ref (c1.ρ kk) := ry
      refine getmeth_ok I1 e2 c hm (rf.none hc.2) ?_
      refine ha.run (.ref f) [.ref (c1.ρ kk)] hm.kp pins s1 σ H1 (fun vs zs H2 => vs.length = n ∧ zs.length = ks.length ∧ spM (Wd.mk X.K T) mf (gSel l (.ref (c1.ρ kk) :: vs) dv mv zs) H2 Q fun cls dd H' => W cls dd σ H') _ I1 ?_ ?_
      · refine twoA R1 (S.ext E1) o1 fun c2 h2 H2 x y v u R2 S2 E2 r1 r2 o2 => ?_
        by_cases hl : x.length = n ∧ y.length = ks.length
        · rw [if_pos hl] at o2
          exact ⟨(lens r1 r2 hl).1, (lens r1 r2 hl).2, c2, _, h2, R2, gSel_rep (.cons (rd.ext E2) r1) (hs c2) (hs2 c2) r2 l, o2⟩
        · rw [if_neg hl] at o2
          exact o2.elim
      · intro us ws vs zs H2 s2 I2 r1 r2 ⟨l1, l2, q⟩
        obtain ⟨its, mw, v1, v2, B⟩ := hb.to
        exact run_m (args := ⟨.ref (c1.ρ kk) :: us, ks.zip ws⟩) tk F hr (B s2 (.ref (c1.ρ kk) :: us) ws I2.kIn (by rw [List.length_cons, ← r1.length, l1]) (r2.length.symm.trans l2)) I2 (gSel_vals (a := .ref (c1.ρ kk) :: vs) (b := .ref (c1.ρ kk) :: us) (.cons rfl r1) v1 v2 r2 l) q
    · rw [if_neg hc] at o1
      exact o1.elim
  · exact o1.elim
/-- a new instance lies -/
theorem made {w : Wd} {c : Cf} {h : AH} {H : Hp} (R : Rel w c h H) {cl : Nat} {x dx : Addr} (hx : H x = none) (hd : H dx = none) (ne : dx ≠ x) :
    Rel w (c.add x (.ins (w.T cl) dx [])) (h.new (.ins cl [])) (upd (upd H dx (.own x)) x (.ins (w.T cl) dx [])) ∧ Ext c H (c.add x (.ins (w.T cl) dx [])) (upd (upd H dx (.own x)) x (.ins (w.T cl) dx [])) :=
  R.add hx (fun a v e => by rw [upd_ne (ne_of_none e hx), upd_ne (ne_of_none e hd)]; exact e) upd_same ⟨dx, [], rfl, rfl⟩
theorem r_make {cl : Nat} (tk : Takes X W) (M : Mk X.K (T cl) f) (F : Fn X.prog X.w X.K T X.mg X.base k f fd ps mf) (hr : Rm (k + 1) X.A) (hm : X.mg x = some (.ref (T cl))) (hb : Bd X.K fd ps (n + 1) ks l dv mv) (hs : ∀ c, RepL (Wd.mk X.K T) c dd dv) (hs2 : ∀ c, RepL (Wd.mk X.K T) c md mv)
    (ha : CArgs X es kws pos ks (tA (Wd.mk X.K T) W ma) (tA (Wd.mk X.K T) W mk)) (hg : Gl X x := by rfl) (hdb : (x == ("__debug__" : Str)) = false := by decide) : PE X (.Call (.Name x p) es kws pos) (tM (Wd.mk X.K T) W (eMake cl mf n ks.length l dd md ma mk)) := by
  refine ⟨fun pins s σ H Q I z => wpAny_Call_Name_kw (ld_glob I hg hm ?_ hdb)⟩
  obtain ⟨c, sl, h, R, S, o⟩ := z
  refine ha.run (.ref (T cl)) [] M.kp pins s σ H (fun vs zs H2 => vs.length = n ∧ zs.length = ks.length ∧ ∀ y dy, H2 y = none → H2 dy = none → dy ≠ y →
    spM (Wd.mk X.K T) mf (gSel l (.ref y :: vs) dv mv zs) (upd (upd H2 dy (.own y)) y (.ins (T cl) dy [])) (fun v H3 => v = .non ∧ Q (.ref y) H3) fun cls dd H' => W cls dd σ H') _ I ?_ ?_
  · refine twoA R S o fun c2 h2 H2 x y v u R2 S2 E2 r1 r2 o2 => ?_
    by_cases hl : x.length = n ∧ y.length = ks.length
    · rw [if_pos hl] at o2
      refine ⟨(lens r1 r2 hl).1, (lens r1 r2 hl).2, fun a da ha hd ne => ?_⟩
      obtain ⟨R3, E3⟩ := made (cl := cl) R2 ha hd ne
      have rn : Rep (Wd.mk X.K T) (c2.add a (.ins (T cl) da [])) (.ref h2.n) (.ref a) := by
        simp only [Rep]
        exact ⟨by show V.ref a = V.ref (if h2.n = c2.n then a else _); rw [if_pos R2.n.symm], by show h2.n < c2.n + 1; rw [R2.n]; exact Nat.lt_succ_self _⟩
      refine ⟨_, _, _, R3, gSel_rep (.cons rn (r1.ext E3)) (hs _) (hs2 _) (r2.ext E3) l, ?_⟩
      refine (Out.bind (A := Rep (Wd.mk X.K T)) (Out.shift E3 o2)).mono ?_
      rintro v3 H3 ⟨c4, h4, d4, R4, E4, r4, o4⟩
      cases d4 with
      | non =>
        simp only [Rep] at r4
        exact ⟨r4, o4 c4 _ H3 R4 (.refl R4.sub) (rn.ext E4)⟩
      | _ => exact o4.elim
    · rw [if_neg hl] at o2
      exact o2.elim
  · intro us ws vs zs H2 s2 I2 r1 r2 ⟨l1, l2, q⟩
    have hq := q (s2.heap.objs.size + 1) s2.heap.objs.size (I2.hok.fresh (Nat.le_succ _)) (I2.hok.fresh (Nat.le_refl _)) (Nat.ne_of_lt (Nat.lt_succ_self _))
    have I3 := Inv.made (C := T cl) I2
    obtain ⟨its, mw, v1, v2, B⟩ := hb.to
    refine wpAny_call (L2.make_map (f := f) I2.kIn M.makes M.init (beq_iff_eq.mp M.fn) (codeAny_mono (F.run _ X.stack _ _ ⟨.ref (s2.heap.objs.size + 1) :: us, ks.zip ws⟩ _ _ _ _ (hr.make _ _ _) (I3.env0.make _ _ _) (B _ (.ref (s2.heap.objs.size + 1) :: us) ws I3.kIn (by rw [List.length_cons, ← r1.length, l1]) (r2.length.symm.trans l2)) (gSel_vals (a := .ref (s2.heap.objs.size + 1) :: vs) (b := .ref (s2.heap.objs.size + 1) :: us) (.cons rfl r1) v1 v2 r2 l) hq) fun z s' hz => ?_))
    cases z with
    | error e => exact passAt tk σ pins _ _ e s' I3 hz
    | ok fl =>
      cases fl with
      | ret u =>
        obtain ⟨v, H', I4, rv, ev, q3⟩ := I3.after hz
        subst ev
        exact ⟨rv, .ref (s2.heap.objs.size + 1), H', I4, rfl, q3⟩
      | next => exact False.elim hz
      | brk => exact False.elim hz
      | cont => exact False.elim hz
end
end MP
set_option Elab.async false
set_option linter.all false
set_option maxRecDepth 100000
set_option maxHeartbeats 4000000
/-! mirrors: tests, statements, loops, comprehensions -/
namespace MP
open PySem PySem.Spec L2
open PyProof.Rows hiding St

/-! ### tests -/
def truth (h : AH) : D → Option Bool
  | .non => some false
  | .bl b => some b
  | .int i => some (i != 0)
  | .str x => if x.length ≤ 100000 then some ((x.length : Int) != 0) else none
  | .tup xs => some (!xs.isEmpty)
  | .lst xs => some (!xs.isEmpty)
  | .fz xs => some (!xs.isEmpty)
  | .ref k => match h.g k with
    | some (.lst xs) => some (!xs.isEmpty)
    | some (.dct kvs) => some (!kvs.isEmpty)
    | _ => none
  | .con _ => none
def tst (m : ME) : MT := fun s h => (m s h).bind fun d h1 => match truth h1 d with
  | some b => .ok b h1
  | none => .st
/-- a comparison's test: a truth -/
def tstB (m : ME) : MT := fun s h => (m s h).bind fun d h1 => match d with
  | .bl b => .ok b h1
  | _ => .st
def tAnd (a b : MT) : MT := fun s h => (a s h).bind fun x h1 => if x = true then b s h1 else .ok false h1
def tOr (a b : MT) : MT := fun s h => (a s h).bind fun x h1 => if x = true then .ok true h1 else b s h1
def tNot (a : MT) : MT := fun s h => (a s h).bind fun x h1 => .ok (!x) h1
/-- x and y, as a value -/
def eAnd (a b : ME) : ME := fun s h => (a s h).bind fun x h1 => match truth h1 x with
  | some k => if k = true then b s h1 else .ok x h1
  | none => .st
def eOr (a b : ME) : ME := fun s h => (a s h).bind fun x h1 => match truth h1 x with
  | some k => if k = true then .ok x h1 else b s h1
  | none => .st
def eNot (a : ME) : ME := fun s h => (a s h).bind fun x h1 => match truth h1 x with
  | some b => .ok (.bl (!b)) h1
  | none => .st
/-- a < b < c -/
def eChain (g g' : AH → D → D → Option D) (a b e : ME) : ME := fun s h => (a s h).bind fun x h1 => (b s h1).bind fun y h2 => match g h2 x y with
  | some (.bl k) => if k = true then (e s h2).bind fun z h3 => optR (g' h3 y z) h3 else .ok (.bl false) h2
  | _ => .st
theorem isE {α : Type} {xs : List D} {vs : List V} {w : Wd} {c : Cf} (r : RepL w c xs vs) : (!xs.isEmpty) = !vs.isEmpty := by
  have := r.len
  cases xs <;> cases vs <;> simp_all
theorem kvE {κ : Type} {w : Wd} {c : Cf} {fs : List (κ × D)} {vs : List (κ × V)} (r : RepKV w c fs vs) : (!fs.isEmpty) = !vs.isEmpty := by
  cases fs with
  | nil => obtain rfl : vs = [] := r; rfl
  | cons f fs => obtain ⟨x, xs, rfl, _⟩ := r; rfl
theorem truth_ok {w : Wd} {c : Cf} {h : AH} {H : Hp} (R : Rel w c h H) {d : D} {v : V} {b : Bool} (r : Rep w c d v) (q : truth h d = some b) : TruV w.K v H b := by
  cases d with
  | non => simp only [Rep] at r; subst r; simp only [truth, Option.some.injEq] at q; exact q.symm
  | bl k => simp only [Rep] at r; subst r; simp only [truth, Option.some.injEq] at q; exact q.symm
  | int i => simp only [Rep] at r; subst r; simp only [truth, Option.some.injEq] at q; exact q.symm
  | str x =>
    simp only [Rep] at r; subst r
    simp only [truth] at q
    split at q
    · rename_i hl
      simp only [Option.some.injEq] at q
      exact ⟨size5 hl, q.symm⟩
    · cases q
  | tup xs =>
    obtain ⟨a, vs, rfl, t, rl⟩ := seqT_ok R r rfl
    simp only [truth, Option.some.injEq] at q
    exact .inr (.inl ⟨vs, t, by rw [← q, isE (α := Unit) rl]⟩)
  | lst xs =>
    obtain ⟨a, vs, rfl, t, rl⟩ := seqL_ok R r rfl
    simp only [truth, Option.some.injEq] at q
    exact .inl ⟨vs, t, by rw [← q, isE (α := Unit) rl]⟩
  | fz xs =>
    obtain ⟨a, vs, rfl, t, rl⟩ := seqL_ok R r rfl
    simp only [truth, Option.some.injEq] at q
    exact .inl ⟨vs, t, by rw [← q, isE (α := Unit) rl]⟩
  | ref k =>
    simp only [truth] at q
    split at q
    · rename_i xs e
      obtain ⟨a, vs, rfl, t, rl⟩ := seqL_ok R r (xs := xs) (by simp [seqL, e])
      simp only [Option.some.injEq] at q
      exact .inl ⟨vs, t, by rw [← q, isE (α := Unit) rl]⟩
    · rename_i kvs e
      simp only [Rep] at r
      obtain ⟨rfl, hk⟩ := r
      obtain ⟨u, e1, vs, rfl, rf⟩ := R.at_ _ _ e
      simp only [Option.some.injEq] at q
      exact .inr (.inr ⟨vs, R.sub _ _ e1, by rw [← q, kvE rf]⟩)
    · cases q
  | con a => simp [truth] at q
section
variable {X : Cx} {T : Nat → Addr} {W : WX} {a b e : Expr} {ma mb : ME} {ta tb : MT} {pos : Pos} {rest : List Expr}
theorem t_truth (ha : PE X a (tM (Wd.mk X.K T) W ma)) (he : ∀ whole, isTrue a X.env whole = (do let v ← whole; standAt a.pos; holding [v] (truthy v)) := by intro _; rfl) : PT X a (tT (Wd.mk X.K T) W (tst ma)) :=
  PTi (pt_truth ha he) fun σ H Q ⟨c, s, h, R, S, o⟩ => ⟨c, s, h, R, S, (Out.bind (A := Rep (Wd.mk X.K T)) o).mono (by
    rintro v H1 ⟨c1, h1, d, R1, E1, r1, o1⟩
    split at o1
    · rename_i b q
      exact ⟨b, truth_ok R1 r1 q, o1 c1 b H1 R1 (.refl R1.sub) rfl⟩
    · exact o1.elim)⟩
theorem t_cmp {op : CmpOp} {r : R2} {g : AH → D → D → Option D} (ho : OpR X (compareOp op) r) (hg : Op2 (Wd.mk X.K T) r g) (ha : PE X a (tM (Wd.mk X.K T) W ma)) (hb : PE X b (tM (Wd.mk X.K T) W mb)) (hm : behindInMarks op b = false) : PT X (.Compare a [op] [b] pos) (tT (Wd.mk X.K T) W (tstB (eBin g ma mb))) :=
  PTi (pt_cmpR ho ha hb hm) fun σ H Q z => by
    obtain ⟨c, s, h, R, S, o⟩ := z
    have o : Out (Wd.mk X.K T) c H (fun cls dd H' => W cls dd σ H') (fun _ a b => a = b) Q ((ma s h).bind fun x h1 => (mb s h1).bind fun y h2 => (optR (g h2 x y) h2).bind fun d h1 => match d with | .bl b => .ok b h1 | _ => .st) := by
      unfold tstB eBin at o
      cases q1 : ma s h with
      | ok x h1 =>
        rw [q1] at o
        simp only [Res.bind] at o ⊢
        cases q2 : mb s h1 with
        | ok y h2 => rw [q2] at o; exact o
        | ex e' h' => rw [q2] at o; exact o
        | st => rw [q2] at o; exact o
      | ex e' h' => rw [q1] at o; exact o
      | st => rw [q1] at o; exact o
    refine ⟨c, s, h, R, S, (Out.bind (A := Rep (Wd.mk X.K T)) o).mono ?_⟩
    rintro v H1 ⟨c1, h1, x, R1, E1, r1, o1⟩
    refine ⟨c1, s, h1, R1, S.ext E1, (Out.bind (A := Rep (Wd.mk X.K T)) o1).mono ?_⟩
    rintro u H2 ⟨c2, h2, y, R2, E2, r2, o2⟩
    cases q : g h2 x y with
    | none => rw [q] at o2; exact o2.elim
    | some d =>
      rw [q] at o2
      refine hg c2 h2 H2 x y d v u _ R2 (r1.ext E2) r2 q fun c3 v3 H3 R3 E3 r3 => ?_
      cases d with
      | bl k =>
        simp only [Rep] at r3
        exact ⟨k, r3, o2 c3 k H3 R3 E3 rfl⟩
      | _ => exact o2.elim
theorem w_and1 (ha : PT X a (tT (Wd.mk X.K T) W ta)) : PW X (.BoolOp .And [a] pos) (tT (Wd.mk X.K T) W ta) := pw_and1 ha
theorem w_or1 (ha : PT X a (tT (Wd.mk X.K T) W ta)) : PW X (.BoolOp .Or [a] pos) (tT (Wd.mk X.K T) W ta) := pw_or1 ha
theorem w_and (ha : PT X a (tT (Wd.mk X.K T) W ta)) (hb : PW X (.BoolOp .And (b :: rest) pos) (tT (Wd.mk X.K T) W tb)) : PW X (.BoolOp .And (a :: b :: rest) pos) (tT (Wd.mk X.K T) W (tAnd ta tb)) :=
  PWi (pw_and ha hb) fun σ H Q z => by
    obtain ⟨c, s, h, R, S, o⟩ := z
    refine ⟨c, s, h, R, S, (Out.bind (A := fun _ a b => a = b) o).mono ?_⟩
    rintro k H1 ⟨c1, h1, k', R1, E1, rfl, o1⟩
    cases k' with
    | true => exact ⟨c1, s, h1, R1, S.ext E1, o1⟩
    | false => exact o1 c1 false H1 R1 (.refl R1.sub) rfl
theorem w_or (ha : PT X a (tT (Wd.mk X.K T) W ta)) (hb : PW X (.BoolOp .Or (b :: rest) pos) (tT (Wd.mk X.K T) W tb)) : PW X (.BoolOp .Or (a :: b :: rest) pos) (tT (Wd.mk X.K T) W (tOr ta tb)) :=
  PWi (pw_or ha hb) fun σ H Q z => by
    obtain ⟨c, s, h, R, S, o⟩ := z
    refine ⟨c, s, h, R, S, (Out.bind (A := fun _ a b => a = b) o).mono ?_⟩
    rintro k H1 ⟨c1, h1, k', R1, E1, rfl, o1⟩
    cases k' with
    | true => exact o1 c1 true H1 R1 (.refl R1.sub) rfl
    | false => exact ⟨c1, s, h1, R1, S.ext E1, o1⟩
theorem t_pw {tm : MT} (h : PW X e (tT (Wd.mk X.K T) W tm)) : PT X e (tT (Wd.mk X.K T) W tm) := h.pt
theorem t_not (ha : PT X a (tT (Wd.mk X.K T) W ta)) : PT X (.UnaryOp .Not a pos) (tT (Wd.mk X.K T) W (tNot ta)) :=
  PTi (pt_not ha) fun σ H Q z => by
    obtain ⟨c, s, h, R, S, o⟩ := z
    refine ⟨c, s, h, R, S, (Out.bind (A := fun _ a b => a = b) o).mono ?_⟩
    rintro k H1 ⟨c1, h1, k', R1, E1, rfl, o1⟩
    exact o1 c1 (!k') H1 R1 (.refl R1.sub) rfl
theorem r_one {op} (ha : PE X a (tM (Wd.mk X.K T) W ma)) : PE X (.BoolOp op [a] pos) (tM (Wd.mk X.K T) W ma) := pe_one ha
theorem r_and (ha : PE X a (tM (Wd.mk X.K T) W ma)) (hb : PE X (.BoolOp .And (b :: rest) pos) (tM (Wd.mk X.K T) W mb)) : PE X (.BoolOp .And (a :: b :: rest) pos) (tM (Wd.mk X.K T) W (eAnd ma mb)) :=
  PEi (pe_andT ha hb) fun σ H Q z => by
    obtain ⟨c, s, h, R, S, o⟩ := z
    refine ⟨c, s, h, R, S, (Out.bind (A := Rep (Wd.mk X.K T)) o).mono ?_⟩
    rintro v H1 ⟨c1, h1, d, R1, E1, r1, o1⟩
    split at o1
    · rename_i k q
      refine ⟨k, truth_ok R1 r1 q, ?_⟩
      cases k with
      | true => exact ⟨c1, s, h1, R1, S.ext E1, o1⟩
      | false => exact o1 c1 v H1 R1 (.refl R1.sub) r1
    · exact o1.elim
theorem r_or (ha : PE X a (tM (Wd.mk X.K T) W ma)) (hb : PE X (.BoolOp .Or (b :: rest) pos) (tM (Wd.mk X.K T) W mb)) : PE X (.BoolOp .Or (a :: b :: rest) pos) (tM (Wd.mk X.K T) W (eOr ma mb)) :=
  PEi (pe_orT ha hb) fun σ H Q z => by
    obtain ⟨c, s, h, R, S, o⟩ := z
    refine ⟨c, s, h, R, S, (Out.bind (A := Rep (Wd.mk X.K T)) o).mono ?_⟩
    rintro v H1 ⟨c1, h1, d, R1, E1, r1, o1⟩
    split at o1
    · rename_i k q
      refine ⟨k, truth_ok R1 r1 q, ?_⟩
      cases k with
      | true => exact o1 c1 v H1 R1 (.refl R1.sub) r1
      | false => exact ⟨c1, s, h1, R1, S.ext E1, o1⟩
    · exact o1.elim
theorem r_not (ha : PE X a (tM (Wd.mk X.K T) W ma)) : PE X (.UnaryOp .Not a pos) (tM (Wd.mk X.K T) W (eNot ma)) :=
  PEi (pe_notT ha) fun σ H Q z => one z fun c2 s h2 H2 x v R2 S2 r1 o => by
    split at o
    · rename_i b q
      exact ⟨b, truth_ok R2 r1 q, o c2 _ H2 R2 (.refl R2.sub) (by simp [Rep])⟩
    · exact o.elim
theorem chain_aux {c3 : Expr} {mc : ME} {r r' : R2} {g g' : AH → D → D → Option D} (hg : Op2 (Wd.mk X.K T) r g) (hg' : Op2 (Wd.mk X.K T) r' g') {σ : L2.St} {H : Hp} {Q : VK} (z : tM (Wd.mk X.K T) W (eChain g g' ma mb mc) σ H Q) :
    tChain r r' (tM (Wd.mk X.K T) W ma) (tM (Wd.mk X.K T) W mb) (tM (Wd.mk X.K T) W mc) σ H Q :=
  two (f := fun s x y h2 => match g h2 x y with | some (.bl k) => if k = true then (mc s h2).bind fun z h3 => optR (g' h3 y z) h3 else .ok (.bl false) h2 | _ => .st) z fun c2 s h2 H2 x y v u R2 S2 r1 r2 o => by
    split at o
    · rename_i k q
      refine hg c2 h2 H2 x y _ v u _ R2 r1 r2 q fun c3 v3 H3 R3 E3 r3 => ?_
      simp only [Rep] at r3
      refine ⟨k, r3, ?_⟩
      cases k with
      | true =>
        rw [if_pos rfl] at o ⊢
        refine ⟨c3, s, h2, R3, S2.ext E3, (Out.bind (A := Rep (Wd.mk X.K T)) (Out.shift E3 o)).mono ?_⟩
        rintro v4 H4 ⟨c4, h4, d4, R4, E4, r4, o4⟩
        obtain ⟨d, e, G⟩ := optOut o4
        exact hg' c4 h4 H4 y d4 d u v4 Q R4 ((r2.ext E3).ext E4) r4 e G
      | false =>
        rw [if_neg Bool.false_ne_true] at o ⊢
        exact o c3 _ H3 R3 E3 (by simp [Rep])
    · exact o.elim
theorem r_chain {c3 : Expr} {mc : ME} {op op' : CmpOp} {r r' : R2} {g g' : AH → D → D → Option D} (ho : OpR X (compareOp op) r) (hg : Op2 (Wd.mk X.K T) r g) (ho' : OpR X (compareOp op') r') (hg' : Op2 (Wd.mk X.K T) r' g') (ha : PE X a (tM (Wd.mk X.K T) W ma)) (hb : PE X b (tM (Wd.mk X.K T) W mb)) (hc : PE X c3 (tM (Wd.mk X.K T) W mc))
    (hm : lastMarks [op, op'] [b, c3] = false := by with_unfolding_all rfl) : PE X (.Compare a [op, op'] [b, c3] pos) (tM (Wd.mk X.K T) W (eChain g g' ma mb mc)) :=
  PEi (pe_chain ho ho' ha hb hc hm) fun σ H Q z => chain_aux (c3 := c3) hg hg' z
theorem t_chain {c3 : Expr} {mc : ME} {op op' : CmpOp} {r r' : R2} {g g' : AH → D → D → Option D} (ho : OpR X (compareOp op) r) (hg : Op2 (Wd.mk X.K T) r g) (ho' : OpR X (compareOp op') r') (hg' : Op2 (Wd.mk X.K T) r' g') (ha : PE X a (tM (Wd.mk X.K T) W ma)) (hb : PE X b (tM (Wd.mk X.K T) W mb)) (hc : PE X c3 (tM (Wd.mk X.K T) W mc))
    (hm : lastMarks [op, op'] [b, c3] = false := by with_unfolding_all rfl) : PT X (.Compare a [op, op'] [b, c3] pos) (tT (Wd.mk X.K T) W (tstB (eChain g g' ma mb mc))) :=
  PTi (pt_chain ho ho' ha hb hc hm) fun σ H Q z => by
    refine chain_aux (c3 := c3) hg hg' (Q := fun x H' => ∃ k, x = .bl k ∧ Q k H') ?_
    obtain ⟨c, s, h, R, S, o⟩ := z
    refine ⟨c, s, h, R, S, (Out.bind (A := Rep (Wd.mk X.K T)) o).mono ?_⟩
    rintro v H1 ⟨c1, h1, d, R1, E1, r1, o1⟩
    cases d with
    | bl k =>
      simp only [Rep] at r1
      exact ⟨k, r1, o1 c1 k H1 R1 (.refl R1.sub) rfl⟩
    | _ => exact o1.elim
end

/-! ### statements -/
def Res.bindS {α : Type} (r : Res α) (s : Sl) (f : α → AH → RS) : RS :=
  match r with
  | .ok a h => f a h
  | .ex e h => .ex e s h
  | .st => .st
abbrev MG := D → Sl → AH → Option (Sl × AH)
abbrev MGs := List D → Sl → AH → Option (Sl × AH)
def sNil : MS := fun s h => .nx s h
def sSeq (a b : MS) : MS := fun s h => match a s h with
  | .nx s' h' => b s' h'
  | r => r
def sExp (e : ME) : MS := fun s h => (e s h).bindS s fun _ h1 => .nx s h1
def sRet (e : ME) : MS := fun s h => (e s h).bindS s fun d h1 => .rt d h1
def sRetN : MS := fun s h => .rt .non h
def sBrk : MS := fun s h => .bk s h
def sCnt : MS := fun s h => .ct s h
def sIf (t : MT) (a b : MS) : MS := fun s h => (t s h).bindS s fun k h1 => if k = true then a s h1 else b s h1
def sDead : MS := fun _ _ => .st
def nxO : Option (Sl × AH) → RS
  | some (s, h) => .nx s h
  | none => .st
def sAsg (e : ME) (g : MG) : MS := fun s h => (e s h).bindS s fun d h1 => nxO (g d s h1)
def gNm (i : Nat) : MG := fun d s h => some (s.set i (some d), h)
def sSet (i : Nat) (e : ME) : MS := fun s h => (e s h).bindS s fun d h1 => .nx (s.set i (some d)) h1
def sPar (i j : Nat) (a b : ME) : MS := fun s h => (a s h).bindS s fun x h1 => (b s h1).bindS s fun y h2 => .nx ((s.set i (some x)).set j (some y)) h2
def sPar3 (i j l : Nat) (a b c : ME) : MS := fun s h => (a s h).bindS s fun x h1 => (b s h1).bindS s fun y h2 => (c s h2).bindS s fun z h3 => .nx (((s.set i (some x)).set j (some y)).set l (some z)) h3
def putFD (f : Str) (v : D) : List (Str × D) → List (Str × D)
  | [] => [(f, v)]
  | (g, x) :: r => if g = f then (g, v) :: r else (g, x) :: putFD f v r
/-- o.f = .. -/
def setFld (cs : List Nat) (f : Str) (x y : D) (h : AH) : Option AH := match insOf h x with
  | some (k, c, fs) => if cs.contains c = true ∧ fs.length < 1000 then some (h.put k (.ins c (putFD f y fs))) else none
  | none => none
def sFld (cs : List Nat) (f : Str) (o e : ME) : MS := fun s h => (e s h).bindS s fun y h1 => (o s h1).bindS s fun x h2 => match setFld cs f x y h2 with
  | some h3 => .nx s h3
  | none => .st
def gFld (cs : List Nat) (f : Str) (o : ME) : MG := fun y s h => match o s h with
  | .ok x h2 => match setFld cs f x y h2 with
    | some h3 => some (s, h3)
    | none => none
  | _ => none
/-- o.f op= e -/
def sFldAug (cs : List Nat) (f : Str) (g : AH → D → D → Option D) (o e : ME) : MS := fun s h => (o s h).bindS s fun x h1 => match insOf h1 x with
  | some (_, c, fs) => match fs.lookup f with
    | some d => if cs.contains c = true then (e s h1).bindS s fun y h2 => match g h2 d y with
      | some z => match insOf h2 x with
        | some (_, c', _) => if c' = c then match setFld cs f x z h2 with
          | some h3 => .nx s h3
          | none => .st
          else .st
        | none => .st
      | none => .st
      else .st
    | none => .st
  | none => .st
def gsNil : MGs := fun ds s h => match ds with
  | [] => some (s, h)
  | _ => none
def gsCons (g : MG) (gs : MGs) : MGs := fun ds s h => match ds with
  | d :: r => match g d s h with
    | some (s1, h1) => gs r s1 h1
    | none => none
  | [] => none
/-- a, b, .. = a tuple -/
def gTp (n : Nat) (gs : MGs) : MG := fun d s h => match seqT d with
  | some xs => if xs.length = n then gs xs s h else none
  | none => none
/-- a, b, .. = a list -/
def gLs (n : Nat) (gs : MGs) : MG := fun d s h => match seqL h d with
  | some xs => if xs.length = n then gs xs s h else none
  | none => none
section
variable {w : Wd} {c c1 : Cf} {H H1 : Hp} {W : WX} {α β : Type} {A : Cf → α → β → Prop}
theorem OutS.bind {D : Ends} {s : Sl} {σ : L2.St} (S : RelS w c s σ) {f : α → AH → RS} : ∀ {r : Res α}, OutS w c H W D (r.bindS s f) →
    Out w c H (fun cls dd H' => W cls dd σ H') A (fun b H1 => ∃ c1 h1 a, Rel w c1 h1 H1 ∧ Ext c H c1 H1 ∧ A c1 a b ∧ OutS w c1 H1 W D (f a h1)) r
  | .ok a h', o => fun c' b H' R e q => ⟨c', h', a, R, e, q, OutS.shift e o⟩
  | .ex _ _, o => fun c' cls dd H' R e x => o c' cls dd σ H' R e (S.ext e) x
  | .st, o => o
end
/-- what is to hold behind a target's store -/
def OutG (w : Wd) (c : Cf) (H : Hp) (Q : L2.St → Hp → Prop) : Option (Sl × AH) → Prop
  | some (s', h') => ∀ c' σ' H', Rel w c' h' H' → Ext c H c' H' → RelS w c' s' σ' → Q σ' H'
  | none => False
theorem OutG.shift {w : Wd} {c c1 : Cf} {H H1 : Hp} (x : Ext c H c1 H1) {Q : L2.St → Hp → Prop} : ∀ {r : Option (Sl × AH)}, OutG w c H Q r → OutG w c1 H1 Q r
  | some _, o => fun c' b H' R e a => o c' b H' R (x.trans e) a
  | none, o => o
/-- a target's reading -/
def tG (w : Wd) (g : MG) : TG := fun v σ H Q => ∃ c s h d, Rel w c h H ∧ RelS w c s σ ∧ Rep w c d v ∧ OutG w c H Q (g d s h)
def tGs (w : Wd) (g : MGs) : TGs := fun vs σ H Q => ∃ c s h ds, Rel w c h H ∧ RelS w c s σ ∧ RepL w c ds vs ∧ OutG w c H Q (g ds s h)
theorem OutS.ofG {w : Wd} {c : Cf} {H : Hp} {W : WX} {D : Ends} : ∀ {r : Option (Sl × AH)}, OutS w c H W D (nxO r) → OutG w c H D.nx r
  | some _, o => o
  | none, o => o
theorem putF_rep {w : Wd} {c : Cf} {f : Str} {d : D} {v : V} (r : Rep w c d v) : ∀ {fs : List (Str × D)} {vs : List (Str × V)}, RepKV w c fs vs → RepKV w c (putFD f d fs) (putF f v vs)
  | [], vs, q => by
    obtain rfl : vs = [] := q
    exact ⟨v, [], rfl, r, rfl⟩
  | (g, x) :: fs, vs, q => by
    obtain ⟨y, ys, rfl, r1, r2⟩ := q
    show RepKV w c (if g = f then (g, d) :: fs else (g, x) :: putFD f d fs) (if g = f then (g, v) :: ys else (g, y) :: putF f v ys)
    by_cases e : g = f
    · rw [if_pos e, if_pos e]
      exact ⟨v, ys, rfl, r, r2⟩
    · rw [if_neg e, if_neg e]
      exact ⟨y, _, rfl, r1, putF_rep r r2⟩
theorem RepKV.len {κ : Type} {w : Wd} {c : Cf} : ∀ {fs : List (κ × D)} {vs : List (κ × V)}, RepKV w c fs vs → fs.length = vs.length
  | [], vs, r => by
    obtain rfl : vs = [] := r
    rfl
  | f :: fs, vs, r => by
    obtain ⟨y, ys, rfl, _, r⟩ := r
    simp [RepKV.len r]
/-- a field is stored -/
theorem setFld_ok {w : Wd} {c : Cf} {h h3 : AH} {H : Hp} (R : Rel w c h H) {cs : List Nat} {f : Str} {x y : D} {v u : V} (rx : Rep w c x v) (ry : Rep w c y u) (e : setFld cs f x y h = some h3) :
    ∃ k cl fs a dx vs, insOf h x = some (k, cl, fs) ∧ cs.contains cl = true ∧ v = .ref a ∧ H a = some (.ins (w.T cl) dx vs) ∧ vs.length < 1000 ∧ ∃ c', Rel w c' h3 (upd H a (.ins (w.T cl) dx (putF f u vs))) ∧ Ext c H c' (upd H a (.ins (w.T cl) dx (putF f u vs))) := by
  unfold setFld at e
  split at e
  · rename_i k cl fs ei
    split at e
    · rename_i hl
      cases e
      obtain ⟨rfl, q, rfl, dx, vs, e1, e2, rf⟩ := insAt R rx ei
      obtain ⟨R', E'⟩ := R.put q e1 (o' := .ins cl (putFD f y fs)) (u' := .ins (w.T cl) dx (putF f u vs)) ⟨dx, _, rfl, putF_rep ry rf⟩
      exact ⟨k, cl, fs, _, dx, vs, ei, hl.1, rfl, e2, by rw [← rf.len]; exact hl.2, _, R', E'⟩
    · cases e
  · cases e
/-- which classes let which fields be read and stored -/
def FldOk (K : PySem.W.Frag) (T : Nat → Addr) (cs : List Nat) (f : Str) : Prop := ∀ k, cs.contains k = true → Cls K (T k) ∧ NoAttr K (T k) f
def eFld (cs : List Nat) (f : Str) (o : ME) : ME := fun s h => (o s h).bind fun x h1 => match insOf h1 x with
  | some (_, c, fs) => if cs.contains c = true then optR (fs.lookup f) h1 else .st
  | none => .st
section
variable {X : Cx} {T : Nat → Addr} {W : WX} {a b e o : Expr} {ma mb mo : ME} {ta tb : MT} {sa sb : MS} {pos : Pos} {st : Stmt} {sts : List Stmt}
theorem s_nil : PSs X [] (tS (Wd.mk X.K T) W sNil) := PSsi pss_nil fun D σ H ⟨c, s, h, R, S, o⟩ => o c σ H R (.refl R.sub) S
theorem s_one (h : PS X st (tS (Wd.mk X.K T) W sa)) : PSs X [st] (tS (Wd.mk X.K T) W sa) := pss_one h
theorem s_cons (h : PS X st (tS (Wd.mk X.K T) W sa)) (hr : PSs X sts (tS (Wd.mk X.K T) W sb)) : PSs X (st :: sts) (tS (Wd.mk X.K T) W (sSeq sa sb)) :=
  PSsi (pss_cons h hr) fun D σ H ⟨c, s, h, R, S, o⟩ => by
    refine ⟨c, s, h, R, S, ?_⟩
    unfold sSeq at o
    cases q : sa s h with
    | nx s' h' =>
      rw [q] at o
      exact fun c' σ' H' R' E' S' => ⟨c', s', h', R', S', OutS.shift E' o⟩
    | rt d h' => rw [q] at o; exact o
    | bk s' h' => rw [q] at o; exact o
    | ct s' h' => rw [q] at o; exact o
    | ex e s' h' => rw [q] at o; exact o
    | st => rw [q] at o; exact o
/-- what follows a way out is not looked at -/
theorem s_pass : PS X (.Pass pos) (tS (Wd.mk X.K T) W sNil) := PSi ps_pass fun D σ H ⟨c, s, h, R, S, o⟩ => o c σ H R (.refl R.sub) S
theorem s_brk : PS X (.Break pos) (tS (Wd.mk X.K T) W sBrk) := PSi ps_break fun D σ H ⟨c, s, h, R, S, o⟩ => o c σ H R (.refl R.sub) S
theorem s_cnt : PS X (.Continue pos) (tS (Wd.mk X.K T) W sCnt) := PSi ps_continue fun D σ H ⟨c, s, h, R, S, o⟩ => o c σ H R (.refl R.sub) S
theorem s_doc {x j pos'} : PS X (.Expr (.Constant (.str x) j pos) pos') (tS (Wd.mk X.K T) W sNil) := PSi ps_doc fun D σ H ⟨c, s, h, R, S, o⟩ => o c σ H R (.refl R.sub) S
theorem s_dead : PS X st (tS (Wd.mk X.K T) W sDead) := PSi ps_never fun D σ H ⟨c, s, h, R, S, o⟩ => o
theorem s_exp (he : PE X e (tM (Wd.mk X.K T) W ma)) (hs : swapsWith e none pos.line X.env = pure false := by rfl) : PS X (.Expr e pos) (tS (Wd.mk X.K T) W (sExp ma)) :=
  PSi (ps_expr he hs) fun D σ H ⟨c, s, h, R, S, o⟩ => ⟨c, s, h, R, S, (OutS.bind (A := Rep (Wd.mk X.K T)) S o).mono (by
    rintro v H1 ⟨c1, h1, d, R1, E1, r1, o1⟩
    exact o1 c1 σ H1 R1 (.refl R1.sub) (S.ext E1))⟩
theorem s_ret (he : PE X e (tM (Wd.mk X.K T) W ma)) : PS X (.Return (some e) pos) (tS (Wd.mk X.K T) W (sRet ma)) :=
  PSi (ps_ret he) fun D σ H ⟨c, s, h, R, S, o⟩ => ⟨c, s, h, R, S, (OutS.bind (A := Rep (Wd.mk X.K T)) S o).mono (by
    rintro v H1 ⟨c1, h1, d, R1, E1, r1, o1⟩
    exact o1 c1 v H1 R1 (.refl R1.sub) r1)⟩
theorem s_retN : PS X (.Return none pos) (tS (Wd.mk X.K T) W sRetN) := PSi ps_retN fun D σ H ⟨c, s, h, R, S, o⟩ => o c .non H R (.refl R.sub) (by simp [Rep])
theorem s_if {a b : List Stmt} (ht : PT X e (tT (Wd.mk X.K T) W ta)) (ha : PSs X a (tS (Wd.mk X.K T) W sa)) (hb : PSs X b (tS (Wd.mk X.K T) W sb)) : PS X (.If e a b pos) (tS (Wd.mk X.K T) W (sIf ta sa sb)) :=
  PSi (ps_if ht ha hb) fun D σ H ⟨c, s, h, R, S, o⟩ => ⟨c, s, h, R, S, (OutS.bind (A := fun _ a b => a = b) S o).mono (by
    rintro k H1 ⟨c1, h1, k', R1, E1, rfl, o1⟩
    cases k' with
    | true => exact ⟨c1, s, h1, R1, S.ext E1, o1⟩
    | false => exact ⟨c1, s, h1, R1, S.ext E1, o1⟩)⟩
theorem s_set {i : Nat} {x : Str} {pos' : Pos} (hN : X.N.Nodup) (he : PE X e (tM (Wd.mk X.K T) W ma)) (hi : X.N[i]? = some x := by rfl) (hx : Loc X.env.scope x := by first | exact Or.inl rfl | exact Or.inr rfl) (hs : swapsWith e (some (.Name x pos')) pos.line X.env = pure false := by rfl)
    (hf : X.fn x = true ∨ X.env.scope.names.lookup x = some .local := by first | exact .inl rfl | exact .inr rfl | assumption) : PS X (.Assign [.Name x pos'] e pos) (tS (Wd.mk X.K T) W (sSet i ma)) :=
  PSi (ps_set hN hi hx he hs hf) fun D σ H ⟨c, s, h, R, S, o⟩ => ⟨c, s, h, R, S, (OutS.bind (A := Rep (Wd.mk X.K T)) S o).mono (by
    rintro v H1 ⟨c1, h1, d, R1, E1, r1, o1⟩
    exact o1 c1 _ H1 R1 (.refl R1.sub) ((S.ext E1).set r1))⟩
theorem s_asg {tg : Expr} {g : MG} (he : PE X e (tM (Wd.mk X.K T) W ma)) (hg : PG X tg (tG (Wd.mk X.K T) g)) (hs : swapsWithSole [tg] e pos.line X.env = pure false := by rfl) (hw : swappedStores [tg] e X.env = pure none := by rfl)
    (h1 : (assignEach [tg] X.env).map (·.2) = [assign tg X.env] := by rfl) : PS X (.Assign [tg] e pos) (tS (Wd.mk X.K T) W (sAsg ma g)) :=
  PSi (ps_asg he hg hs hw h1) fun D σ H ⟨c, s, h, R, S, o⟩ => ⟨c, s, h, R, S, (OutS.bind (A := Rep (Wd.mk X.K T)) S o).mono (by
    rintro v H1 ⟨c1, h1, d, R1, E1, r1, o1⟩
    exact ⟨c1, s, h1, d, R1, S.ext E1, r1, OutS.ofG o1⟩)⟩
def sAsg2 (e : ME) (g1 g2 : MG) : MS := fun s h => (e s h).bindS s fun d h1 => nxO (match g1 d s h1 with | some (s1, h2) => g2 d s1 h2 | none => none)
def sAsg3 (e : ME) (g1 g2 g3 : MG) : MS := fun s h => (e s h).bindS s fun d h1 => nxO (match g1 d s h1 with | some (s1, h2) => (match g2 d s1 h2 with | some (s2, h3) => g3 d s2 h3 | none => none) | none => none)
theorem s_asg2 {t1 t2 : Expr} {g1 g2 : MG} (he : PE X e (tM (Wd.mk X.K T) W ma)) (h1 : PG X t1 (tG (Wd.mk X.K T) g1)) (h2 : PG X t2 (tG (Wd.mk X.K T) g2)) (hx : (assignEach [t1, t2] X.env).map (·.2) = [assign t1 X.env, assign t2 X.env] := by rfl) (hw : swappedStores [t1, t2] e X.env = pure none := by rfl) :
    PS X (.Assign [t1, t2] e pos) (tS (Wd.mk X.K T) W (sAsg2 ma g1 g2)) :=
  PSi (ps_asg2 he h1 h2 hx hw) fun D σ H ⟨c, s, h, R, S, o⟩ => ⟨c, s, h, R, S, (OutS.bind (A := Rep (Wd.mk X.K T)) S o).mono (by
    rintro v H1 ⟨c1, h1, d, R1, E1, r1, o1⟩
    refine ⟨c1, s, h1, d, R1, S.ext E1, r1, ?_⟩
    have o2 := OutS.ofG o1
    cases q : g1 d s h1 with
    | none => rw [q] at o2; exact o2.elim
    | some p =>
      rw [q] at o2
      exact fun c' σ' H' R' E' S' => ⟨c', p.1, p.2, d, R', S', r1.ext E', OutG.shift E' o2⟩)⟩
theorem s_asg3 {t1 t2 t3 : Expr} {g1 g2 g3 : MG} (he : PE X e (tM (Wd.mk X.K T) W ma)) (h1 : PG X t1 (tG (Wd.mk X.K T) g1)) (h2 : PG X t2 (tG (Wd.mk X.K T) g2)) (h3 : PG X t3 (tG (Wd.mk X.K T) g3))
    (hx : (assignEach [t1, t2, t3] X.env).map (·.2) = [assign t1 X.env, assign t2 X.env, assign t3 X.env] := by rfl) (hw : swappedStores [t1, t2, t3] e X.env = pure none := by rfl) :
    PS X (.Assign [t1, t2, t3] e pos) (tS (Wd.mk X.K T) W (sAsg3 ma g1 g2 g3)) :=
  PSi (ps_asg3 he h1 h2 h3 hx hw) fun D σ H ⟨c, s, h, R, S, o⟩ => ⟨c, s, h, R, S, (OutS.bind (A := Rep (Wd.mk X.K T)) S o).mono (by
    rintro v H1 ⟨c1, h1, d, R1, E1, r1, o1⟩
    refine ⟨c1, s, h1, d, R1, S.ext E1, r1, ?_⟩
    have o2 := OutS.ofG o1
    cases q : g1 d s h1 with
    | none => rw [q] at o2; exact o2.elim
    | some p =>
      rw [q] at o2
      refine fun c' σ' H' R' E' S' => ⟨c', p.1, p.2, d, R', S', r1.ext E', ?_⟩
      dsimp only at o2
      cases q2 : g2 d p.1 p.2 with
      | none => rw [q2] at o2; exact o2.elim
      | some p2 =>
        rw [q2] at o2
        exact fun c3 σ3 H3 R3 E3 S3 => ⟨c3, p2.1, p2.2, d, R3, S3, (r1.ext E').ext E3, OutG.shift (E'.trans E3) o2⟩)⟩
theorem g_nm {i : Nat} {x : Str} (hN : X.N.Nodup) (hi : X.N[i]? = some x := by rfl) (hx : Loc X.env.scope x := by first | exact Or.inl rfl | exact Or.inr rfl) (hf : X.fn x = true ∨ X.env.scope.names.lookup x = some .local := by first | exact .inl rfl | exact .inr rfl | assumption) :
    PG X (.Name x pos) (tG (Wd.mk X.K T) (gNm i)) :=
  ⟨fun pins s σ H v u Q I r z => (pg_name hN hi hx hf).run pins s σ H v u Q I r (by
    obtain ⟨c, s, h, d, R, S, r1, o⟩ := z
    exact o c _ H R (.refl R.sub) (S.set r1))⟩
theorem gs_nil : PGs X [] (tGs (Wd.mk X.K T) gsNil) :=
  ⟨fun pins s σ H v u Q I r z => pgs_nil.run pins s σ H v u Q I r (by
    obtain ⟨c, s, h, ds, R, S, r1, o⟩ := z
    cases ds with
    | nil => exact ⟨by simpa [RepL] using r1, o c σ H R (.refl R.sub) S⟩
    | cons d ds => exact o.elim)⟩
theorem gs_cons {t : Expr} {ts : List Expr} {g : MG} {gs : MGs} (h1 : PG X t (tG (Wd.mk X.K T) g)) (h2 : PGs X ts (tGs (Wd.mk X.K T) gs)) (he : (assignEach (t :: ts) X.env).map (·.2) = assign t X.env :: (assignEach ts X.env).map (·.2) := by rfl) : PGs X (t :: ts) (tGs (Wd.mk X.K T) (gsCons g gs)) :=
  ⟨fun pins s σ H v u Q I r z => (pgs_cons h1 h2 he).run pins s σ H v u Q I r (by
    obtain ⟨c, s, h, ds, R, S, r1, o⟩ := z
    cases ds with
    | nil => exact o.elim
    | cons d ds =>
      simp only [RepL] at r1
      obtain ⟨y, ys, rfl, ra, rb⟩ := r1
      refine ⟨y, ys, rfl, c, s, h, d, R, S, ra, ?_⟩
      simp only [gsCons] at o
      cases q : g d s h with
      | none => rw [q] at o; exact o.elim
      | some p =>
        rw [q] at o
        exact fun c' σ' H' R' E' S' => ⟨c', p.1, p.2, ds, R', S', rb.ext E', OutG.shift E' o⟩)⟩
theorem g_tp {ts : List Expr} {k n : Nat} {gs : MGs} (hc : X.calm = true) (h : PGs X ts (tGs (Wd.mk X.K T) gs)) (hn : (assignEach ts X.env).length = n := by rfl) (hst : (assignEach ts X.env).findIdx? (·.1) = none := by rfl) : PG X (.Tuple ts k pos) (tG (Wd.mk X.K T) (gTp n gs)) :=
  ⟨fun pins s σ H v u Q I r z => (pg_tup hc h hn hst).run pins s σ H v u Q I r (by
    obtain ⟨c, s, h, d, R, S, r1, o⟩ := z
    simp only [gTp] at o
    split at o
    · rename_i xs e
      split at o
      · rename_i hl
        obtain ⟨a, vs, rfl, t, rl⟩ := seqT_ok R r1 e
        exact ⟨a, vs, rfl, t, by rw [← rl.len]; exact hl, c, s, h, xs, R, S, rl, o⟩
      · exact o.elim
    · exact o.elim)⟩
theorem g_ls {ts : List Expr} {k n : Nat} {gs : MGs} (hc : X.calm = true) (h : PGs X ts (tGs (Wd.mk X.K T) gs)) (hn : (assignEach ts X.env).length = n := by rfl) (hst : (assignEach ts X.env).findIdx? (·.1) = none := by rfl) : PG X (.Tuple ts k pos) (tG (Wd.mk X.K T) (gLs n gs)) :=
  ⟨fun pins s σ H v u Q I r z => (pg_lst hc h hn hst).run pins s σ H v u Q I r (by
    obtain ⟨c, s, h, d, R, S, r1, o⟩ := z
    simp only [gLs] at o
    split at o
    · rename_i xs e
      split at o
      · rename_i hl
        obtain ⟨a, vs, rfl, t, rl⟩ := seqL_ok R r1 e
        exact ⟨a, vs, rfl, t, by rw [← rl.len]; exact hl, c, s, h, xs, R, S, rl, o⟩
      · exact o.elim
    · exact o.elim)⟩
theorem s_par {i j : Nat} {x y : Str} {px py pt : Pos} {kt k2 pt2} (hc : X.calm = true) (hN : X.N.Nodup) (ha : PE X a (tM (Wd.mk X.K T) W ma)) (hb : PE X b (tM (Wd.mk X.K T) W mb)) (hi : X.N[i]? = some x := by rfl) (hj : X.N[j]? = some y := by rfl) (hij : i ≠ j := by decide)
    (hx : X.env.scope.names.lookup x = some .local := by rfl) (hy : X.env.scope.names.lookup y = some .local := by rfl)
    (hw : swappedStores [.Tuple [.Name x px, .Name y py] kt pt] (.Tuple [a, b] k2 pt2) X.env = pure (some [x, y]) := by rfl)
    (hs : swapsWithSole [.Tuple [.Name x px, .Name y py] kt pt] (.Tuple [a, b] k2 pt2) pos.line X.env = pure false := by rfl)
    (h1 : starEach [a, b] X.env = (false, eval a X.env) :: starEach [b] X.env := by rfl) (h2 : starEach [b] X.env = (false, eval b X.env) :: starEach [] X.env := by rfl) :
    PS X (.Assign [.Tuple [.Name x px, .Name y py] kt pt] (.Tuple [a, b] k2 pt2) pos) (tS (Wd.mk X.K T) W (sPar i j ma mb)) :=
  PSi (ps_par hc hN hi hj hij hx hy (pa_cons ha (pa_cons hb pa_nil h2) h1) hw hs) fun D σ H ⟨c, s, h, R, S, o⟩ => ⟨c, s, h, R, S, (OutS.bind (A := Rep (Wd.mk X.K T)) S o).mono (by
    rintro v H1 ⟨c1, h1, d, R1, E1, r1, o1⟩
    refine ⟨c1, s, h1, R1, S.ext E1, (OutS.bind (A := Rep (Wd.mk X.K T)) (S.ext E1) o1).mono ?_⟩
    rintro v2 H2 ⟨c2, h2, d2, R2, E2, r2, o2⟩
    exact ⟨v, v2, rfl, o2 c2 _ H2 R2 (.refl R2.sub) ((((S.ext E1).ext E2).set (r1.ext E2)).set r2)⟩)⟩
/-- fields -/
theorem r_fld {f : Str} {cs : List Nat} (ho : FldOk X.K T cs f) (he : PE X o (tM (Wd.mk X.K T) W mo)) (hb : attributeBase o f X.env (eval o X.env) = eval o X.env := by rfl) : PE X (.Attribute o f pos) (tM (Wd.mk X.K T) W (eFld cs f mo)) :=
  PEi (pe_fld he hb) fun σ H Q z => one (f := fun _ x h1 => match insOf h1 x with
    | some (_, c, fs) => if cs.contains c = true then optR (fs.lookup f) h1 else .st
    | none => .st) z fun c2 s h2 H2 x v R2 S2 r1 o => by
    split at o
    · rename_i k cl fs ei
      split at o
      · rename_i hm
        obtain ⟨rfl, q, rfl, dx, vs, e1, e2, rf⟩ := insAt R2 r1 ei
        obtain ⟨d, e, G⟩ := optOut o
        rcases rf.lookup (f := f) with ⟨z, _⟩ | ⟨d', v', z, z2, rr⟩
        · rw [z] at e; cases e
        · rw [z] at e; cases e
          exact ⟨_, T cl, dx, vs, v', rfl, e2, (ho cl hm).1, (ho cl hm).2, z2, G.same R2 rr⟩
      · exact o.elim
    · exact o.elim
theorem s_fld {f : Str} {cs : List Nat} {pos' : Pos} (hf : FldOk X.K T cs f) (ho : PE X o (tM (Wd.mk X.K T) W mo)) (he : PE X e (tM (Wd.mk X.K T) W ma)) (hs : swapsWith e (some (.Attribute o f pos')) pos.line X.env = pure false := by rfl) :
    PS X (.Assign [.Attribute o f pos'] e pos) (tS (Wd.mk X.K T) W (sFld cs f mo ma)) :=
  PSi (ps_fld ho he hs) fun D σ H ⟨c, s, h, R, S, o⟩ => ⟨c, s, h, R, S, (OutS.bind (A := Rep (Wd.mk X.K T)) S o).mono (by
    rintro v H1 ⟨c1, h1, d, R1, E1, r1, o1⟩
    refine ⟨c1, s, h1, R1, S.ext E1, (OutS.bind (A := Rep (Wd.mk X.K T)) (S.ext E1) o1).mono ?_⟩
    rintro v2 H2 ⟨c2, h2, d2, R2, E2, r2, o2⟩
    split at o2
    · rename_i h3 e3
      obtain ⟨k, cl, fs, a, dx, vs, ei, hc, rfl, ea, hl, c3, R3, E3⟩ := setFld_ok R2 r2 (r1.ext E2) e3
      exact ⟨a, T cl, dx, vs, rfl, ea, (hf cl hc).1, (hf cl hc).2, hl, o2 c3 σ _ R3 E3 (((S.ext E1).ext E2).ext E3)⟩
    · exact o2.elim)⟩
theorem g_fld {f : Str} {cs : List Nat} (hf : FldOk X.K T cs f) (ho : PE X o (tM (Wd.mk X.K T) (fun _ _ _ _ => False) mo))
    (ha : ∀ v, assign (.Attribute o f pos) X.env v = (do
      let ov ← holding [v] (eval o X.env)
      standAt pos.atName
      holding [v, ov] (setAttr ov f v)
      release [v, ov] []) := by intro _; rfl) : PG X (.Attribute o f pos) (tG (Wd.mk X.K T) (gFld cs f mo)) := by
  refine ⟨fun pins s σ H v u Q I r z => ?_⟩
  obtain ⟨c, sl, h, d, R, S, r1, o1⟩ := z
  rw [ha]
  have w1 := ho.run pins s σ H (fun x H1 => ∃ c1 h1 y, Rel (Wd.mk X.K T) c1 h1 H1 ∧ Ext c H c1 H1 ∧ Rep (Wd.mk X.K T) c1 y x ∧ OutG (Wd.mk X.K T) c1 H1 Q (match setFld cs f y d h1 with | some h3 => some (sl, h3) | none => none)) I ⟨c, sl, h, R, S, by
    simp only [gFld] at o1
    cases q : mo sl h with
    | ok y h1 => rw [q] at o1; exact fun c' b H' R' E' r' => ⟨c', h1, y, R', E', r', OutG.shift E' o1⟩
    | ex e h' => rw [q] at o1; exact o1.elim
    | st => rw [q] at o1; exact o1.elim⟩
  refine wpAny_bind (wpAny_holding (thn w1 fun ov s1 ⟨x, H1, I1, rx, c1, h1, y, R1, E1, ry, o2⟩ => ?_))
  split at o2
  · rename_i h3 e3
    obtain ⟨k, cl, fs, a, dx, vs, ei, hc, rfl, ea, hl, c3, R3, E3⟩ := setFld_ok R1 ry (r1.ext E1) e3
    obtain rfl : ov = Value.ref a := rx
    refine wpAny_bind (wpAny_standAt (wpAny_bind (wpAny_holding (setattr_ok I1 ea (hf cl hc).1 (hf cl hc).2 hl r fun s3 I3 => ?_))))
    exact wpAny_release ⟨σ, _, I3, o2 c3 σ _ R3 E3 ((S.ext E1).ext E3)⟩
  · exact o2.elim
theorem s_fldAug {f : Str} {cs : List Nat} {op : Operator} {tpos : Pos} {rd : V → V → Hp → VK → Prop} {g : AH → D → D → Option D} (hf : FldOk X.K T cs f) (hop : InOp X op rd) (hg : Op2 (Wd.mk X.K T) rd g) (ho : PE X o (tM (Wd.mk X.K T) W mo)) (he : PE X e (tM (Wd.mk X.K T) W ma)) :
    PS X (.AugAssign (.Attribute o f tpos) op e pos) (tS (Wd.mk X.K T) W (sFldAug cs f g mo ma)) :=
  PSi (ps_fldaug ho he hop) fun D σ H ⟨c, s, h, R, S, o⟩ => ⟨c, s, h, R, S, (OutS.bind (A := Rep (Wd.mk X.K T)) S o).mono (by
    rintro v H1 ⟨c1, h1, d, R1, E1, r1, o1⟩
    split at o1
    · rename_i k cl fs ei
      split at o1
      · rename_i dd el
        split at o1
        · rename_i hc
          obtain ⟨rfl, q, rfl, dx, vs, e1, e2, rf⟩ := insAt R1 r1 ei
          rcases rf.lookup (f := f) with ⟨z, _⟩ | ⟨d', v', z, z2, rr⟩
          · rw [z] at el; cases el
          · rw [z] at el; cases el
            refine ⟨_, T cl, dx, vs, v', rfl, e2, (hf cl hc).1, (hf cl hc).2, z2, c1, s, h1, R1, S.ext E1, (OutS.bind (A := Rep (Wd.mk X.K T)) (S.ext E1) o1).mono ?_⟩
            rintro u H2 ⟨c2, h2, y, R2, E2, r2, o2⟩
            split at o2
            · rename_i zz ez
              refine hg c2 h2 H2 _ y zz v' u _ R2 (rr.ext E2) r2 ez fun c3 w3 H3 R3 E3 r3 => ?_
              split at o2
              · rename_i k3 cl3 fs3 ei3
                split at o2
                · rename_i hcl
                  subst hcl
                  split at o2
                  · rename_i h3 e3
                    obtain ⟨k3, cl3, fs3, a3, dx3, vs3, ei4, hc3, ea3, ha3, hl3, c4, R4, E4⟩ := setFld_ok R3 ((r1.ext E2).ext E3) r3 e3
                    rw [ei3] at ei4
                    cases ei4
                    cases ea3
                    exact ⟨dx3, vs3, ha3, hl3, o2 c4 σ _ R4 (E3.trans E4) ((((S.ext E1).ext E2).ext E3).ext E4)⟩
                  · exact o2.elim
                · exact o2.elim
              · exact o2.elim
            · exact o2.elim
        · exact o1.elim
      · exact o1.elim
    · exact o1.elim)⟩
end
end MP
set_option Elab.async false
set_option linter.all false
set_option maxRecDepth 100000
set_option maxHeartbeats 4000000
/-! mirrors: what is walked, for, while, comprehensions -/
namespace MP
open PySem PySem.Spec L2
open PyProof.Rows hiding St

/-- what is walked: its items, and whether it is still as it was -/
structure Walk where
  xs : List D
  ok : AH → Bool
abbrev MI := Sl → AH → Res Walk
def ItOk (w : Wd) (c0 : Cf) (H0 : Hp) (J : It) (k : Walk) : Prop := ∀ c h H i, Rel w c h H → Ext c0 H0 c H → k.ok h = true →
  (i = k.xs.length → J.stop i H) ∧ ∀ d, k.xs[i]? = some d → J.go i H ∧ ∀ x H', J.yld i H x H' → ∃ c', Rel w c' h H' ∧ Ext c H c' H' ∧ Rep w c' d x
def OutW (w : Wd) (c : Cf) (H : Hp) (E : XK) (R : It → Hp → Prop) : Res Walk → Prop
  | .ok k h' => ∀ c' J H', Rel w c' h' H' → Ext c H c' H' → ItOk w c' H' J k → R J H'
  | .ex e h' => ∀ c' cls dd H', Rel w c' h' H' → Ext c H c' H' → RepX w c' e cls dd → E cls dd H'
  | .st => False
def tI (w : Wd) (W : WX) (m : MI) : TI := fun σ H R => ∃ c s h, Rel w c h H ∧ RelS w c s σ ∧ OutW w c H (fun cls dd H' => W cls dd σ H') R (m s h)
theorem OutW.shift {w : Wd} {c c1 : Cf} {H H1 : Hp} {E : XK} {R : It → Hp → Prop} (x : Ext c H c1 H1) : ∀ {r : Res Walk}, OutW w c H E R r → OutW w c1 H1 E R r
  | .ok _ _, o => fun c' b H' R e a => o c' b H' R (x.trans e) a
  | .ex _ _, o => fun c' cls dd H' R e a => o c' cls dd H' R (x.trans e) a
  | .st, o => o
theorem OutW.bind {w : Wd} {c : Cf} {H : Hp} {E : XK} {R : It → Hp → Prop} {α β : Type} {A : Cf → α → β → Prop} {f : α → AH → Res Walk} : ∀ {r : Res α}, OutW w c H E R (r.bind f) →
    Out w c H E A (fun b H1 => ∃ c1 h1 a, Rel w c1 h1 H1 ∧ Ext c H c1 H1 ∧ A c1 a b ∧ OutW w c1 H1 E R (f a h1)) r
  | .ok a h', o => fun c' b H' R e q => ⟨c', h', a, R, e, q, OutW.shift e o⟩
  | .ex _ _, o => o
  | .st, o => o
theorem PIi {X : Cx} {tg e : Expr} {t t' : TI} (h : PI X tg e t) (q : ∀ σ H R, t' σ H R → t σ H R) : PI X tg e t' := ⟨fun pins s σ H R I z => h.run pins s σ H R I (q σ H R z)⟩
/-- is the list still as it was -/
def lstOk (d : D) (xs : List D) : AH → Bool := match d with
  | .ref k => fun h => match h.g k with
    | some (.lst ys) => D.eqbL ys xs
    | _ => false
  | _ => fun _ => true
def iLst (e : ME) : MI := fun s h => (e s h).bind fun d h1 => match seqL h1 d with
  | some xs => .ok ⟨xs, lstOk d xs⟩ h1
  | none => .st
def iTup (e : ME) : MI := fun s h => (e s h).bind fun d h1 => match seqT d with
  | some xs => .ok ⟨xs, fun _ => true⟩ h1
  | none => .st
def iSeq (e : ME) : MI := fun s h => (e s h).bind fun d h1 => match seqT d with
  | some xs => .ok ⟨xs, fun _ => true⟩ h1
  | none => match seqL h1 d with
    | some xs => .ok ⟨xs, lstOk d xs⟩ h1
    | none => .st
def rng (lo hi : Int) : List D := (List.range (hi - lo).toNat).map fun k => .int (lo + (k : Nat))
def iRng1 (a : ME) : MI := fun s h => (a s h).bind fun x h1 => match x with
  | .int j => if -(2 ^ 62) ≤ j ∧ j < 2 ^ 62 then .ok ⟨rng 0 j, fun _ => true⟩ h1 else .st
  | _ => .st
def iRng2 (a b : ME) : MI := fun s h => (a s h).bind fun x h1 => (b s h1).bind fun y h2 => match x, y with
  | .int i, .int j => if -(2 ^ 62) ≤ i ∧ i < 2 ^ 62 ∧ -(2 ^ 62) ≤ j ∧ j < 2 ^ 62 then .ok ⟨rng i j, fun _ => true⟩ h2 else .st
  | _, _ => .st
/-- a list read, at a place -/
theorem lst_at {w : Wd} {c0 c : Cf} {H0 H : Hp} {h0 h : AH} (R0 : Rel w c0 h0 H0) (R : Rel w c h H) (E : Ext c0 H0 c H) {d : D} {v : V} {xs : List D} (r : Rep w c0 d v) (q : seqL h0 d = some xs) (hk : lstOk d xs h = true) :
    ∃ a vs, v = .ref a ∧ SqL w.K H a vs ∧ RepL w c xs vs := by
  have q2 : seqL h d = some xs := by
    cases d with
    | ref k =>
      simp only [lstOk] at hk
      split at hk
      · rename_i ys e
        rw [D.eqbL_eq hk] at e
        simp [seqL, e]
      · cases hk
    | lst ys => exact q
    | fz ys => exact q
    | _ => simp [seqL] at q
  exact seqL_ok R (r.ext E) q2
section
variable {X : Cx} {T : Nat → Addr} {W : WX} {a b e o tg iter : Expr} {ma mb mo : ME} {ms : MA} {pos p : Pos}
theorem i_lst (he : PE X e (tM (Wd.mk X.K T) W ma)) : PI X tg e (tI (Wd.mk X.K T) W (iLst ma)) :=
  PIi (pi_list he) fun σ H R ⟨c, s, h, R0, S, z⟩ => ⟨c, s, h, R0, S, (OutW.bind (A := Rep (Wd.mk X.K T)) z).mono (by
    rintro v H1 ⟨c1, h1, d, R1, E1, r1, o⟩
    split at o
    · rename_i xs q
      obtain ⟨av, vs, rfl, sq, rl⟩ := seqL_ok R1 r1 q
      refine ⟨av, rfl, ⟨vs, sq⟩, o c1 _ H1 R1 (.refl R1.sub) ?_⟩
      intro c2 h2 H2 i R2 E2 hk
      obtain ⟨a2, vs2, ea, sq2, rl2⟩ := lst_at R1 R2 E2 r1 q hk
      cases ea
      refine ⟨fun hi => ⟨vs2, sq2, by rw [← rl2.len, hi]; exact Nat.le_refl _⟩, fun d2 hd => ?_⟩
      obtain ⟨y, ey, ry⟩ := rl2.get hd
      refine ⟨⟨vs2, y, sq2, ey⟩, ?_⟩
      rintro x H' ⟨rfl, hx⟩
      have := hx vs2 sq2
      rw [ey] at this
      cases this
      exact ⟨c2, R2, .refl R2.sub, ry⟩
    · exact o.elim)⟩
theorem i_tup (he : PE X e (tM (Wd.mk X.K T) W ma)) : PI X tg e (tI (Wd.mk X.K T) W (iTup ma)) :=
  PIi (pi_tup he) fun σ H R ⟨c, s, h, R0, S, z⟩ => ⟨c, s, h, R0, S, (OutW.bind (A := Rep (Wd.mk X.K T)) z).mono (by
    rintro v H1 ⟨c1, h1, d, R1, E1, r1, o⟩
    split at o
    · rename_i xs q
      obtain ⟨av, vs, rfl, sq, rl⟩ := seqT_ok R1 r1 q
      refine ⟨av, rfl, ⟨vs, sq⟩, o c1 _ H1 R1 (.refl R1.sub) ?_⟩
      intro c2 h2 H2 i R2 E2 hk
      obtain ⟨a2, vs2, ea, sq2, rl2⟩ := seqT_ok R2 (r1.ext E2) q
      cases ea
      refine ⟨fun hi => ⟨vs2, sq2, by rw [← rl2.len, hi]; exact Nat.le_refl _⟩, fun d2 hd => ?_⟩
      obtain ⟨y, ey, ry⟩ := rl2.get hd
      refine ⟨⟨vs2, y, sq2, ey⟩, ?_⟩
      rintro x H' ⟨rfl, hx⟩
      have := hx vs2 sq2
      rw [ey] at this
      cases this
      exact ⟨c2, R2, .refl R2.sub, ry⟩
    · exact o.elim)⟩
/-- a list or a tuple -/
theorem i_seq (he : PE X e (tM (Wd.mk X.K T) W ma)) : PI X tg e (tI (Wd.mk X.K T) W (iSeq ma)) := by
  have lst := fun (m : ME) (h : PE X e (tM (Wd.mk X.K T) W m)) => i_lst (tg := tg) h
  refine ⟨fun pins s σ H R I z => ?_⟩
  obtain ⟨c, sl, h, R0, S, z⟩ := z
  -- run the expression once: which of both it is is told by the mirror
  cases q : ma sl h with
  | ok d h1 =>
    cases q2 : seqT d with
    | some xs =>
      refine (i_tup (tg := tg) he).run pins s σ H R I ⟨c, sl, h, R0, S, ?_⟩
      simp only [iSeq, iTup, q, Res.bind, q2] at z ⊢
      exact z
    | none =>
      refine (i_lst (tg := tg) he).run pins s σ H R I ⟨c, sl, h, R0, S, ?_⟩
      simp only [iSeq, iLst, q, Res.bind, q2] at z ⊢
      exact z
  | ex e h1 =>
    refine (i_lst (tg := tg) he).run pins s σ H R I ⟨c, sl, h, R0, S, ?_⟩
    simp only [iSeq, iLst, q, Res.bind] at z ⊢
    exact z
  | st =>
    simp only [iSeq, q, Res.bind] at z
    exact z.elim
theorem itr_ok {w : Wd} {c : Cf} {H : Hp} (lo hi : Int) : ItOk w c H (Itr lo (hi - lo).toNat) ⟨rng lo hi, fun _ => true⟩ := by
  intro c2 h2 H2 i R2 E2 _
  have hl : (rng lo hi).length = (hi - lo).toNat := by simp [rng]
  refine ⟨fun e => by show (hi - lo).toNat ≤ i; rw [← hl]; exact Nat.le_of_eq e.symm, fun d hd => ?_⟩
  have hi' : i < (hi - lo).toNat := by rw [← hl]; exact (List.getElem?_eq_some_iff.mp hd).1
  have : d = .int (lo + (i : Nat)) := by
    have hd : (rng lo hi)[i]? = some d := hd
    simp only [rng, List.getElem?_map, List.getElem?_range hi', Option.map_some, Option.some.injEq] at hd
    exact hd.symm
  subst this
  exact ⟨hi', fun x H' ⟨e1, e2⟩ => by subst e1 e2; exact ⟨c2, R2, .refl R2.sub, by simp [Rep]⟩⟩
theorem i_rng1 (hm : X.mg "range" = none) (ha : PE X a (tM (Wd.mk X.K T) W ma)) (hg : Gl X "range" := by rfl) (hs : starEach [a] X.env = [(false, eval a X.env)] := by rfl) : PI X tg (.Call (.Name "range" p) [a] [] pos) (tI (Wd.mk X.K T) W (iRng1 ma)) :=
  PIi (pi_range1 hg hm (pa_cons ha pa_nil hs) hs) fun σ H R ⟨c, s, h, R0, S, z⟩ => ⟨c, s, h, R0, S, (OutW.bind (A := Rep (Wd.mk X.K T)) z).mono (by
    rintro v H1 ⟨c1, h1, d, R1, E1, r1, o⟩
    split at o
    · rename_i j
      simp only [Rep] at r1
      subst r1
      split at o
      · rename_i hj
        refine ⟨j, rfl, hj.1, hj.2, o c1 _ H1 R1 (.refl R1.sub) ?_⟩
        have := itr_ok (w := (Wd.mk X.K T)) (c := c1) (H := H1) 0 j
        rw [Int.sub_zero] at this
        exact this
      · exact o.elim
    · exact o.elim)⟩
theorem i_rng2 (hm : X.mg "range" = none) (ha : PE X a (tM (Wd.mk X.K T) W ma)) (hb : PE X b (tM (Wd.mk X.K T) W mb)) (hg : Gl X "range" := by rfl) (hs : starEach [a, b] X.env = [(false, eval a X.env), (false, eval b X.env)] := by rfl) (hs2 : starEach [b] X.env = [(false, eval b X.env)] := by rfl) :
    PI X tg (.Call (.Name "range" p) [a, b] [] pos) (tI (Wd.mk X.K T) W (iRng2 ma mb)) :=
  PIi (pi_range2 hg hm (pa_cons ha (pa_cons hb pa_nil hs2) (by rw [hs, hs2])) hs hs2) fun σ H R ⟨c, s, h, R0, S, z⟩ => ⟨c, s, h, R0, S, (OutW.bind (A := Rep (Wd.mk X.K T)) z).mono (by
    rintro v H1 ⟨c1, h1, d, R1, E1, r1, o⟩
    refine ⟨c1, s, h1, R1, S.ext E1, (OutW.bind (A := Rep (Wd.mk X.K T)) o).mono ?_⟩
    rintro v2 H2 ⟨c2, h2, d2, R2, E2, r2, o2⟩
    split at o2
    · rename_i i j
      simp only [Rep] at r1 r2
      subst r1 r2
      split at o2
      · rename_i hj
        exact ⟨i, j, rfl, hj, o2 c2 _ H2 R2 (.refl R2.sub) (itr_ok i j)⟩
      · exact o2.elim
    · exact o2.elim)⟩

/-! ### for -/
def forL (ok : AH → Bool) (g : MG) (b : MS) : List D → Sl → AH → RS
  | [], s, h => if ok h = true then .nx s h else .st
  | x :: xs, s, h => if ok h = true then match g x s h with
    | some (s1, h1) => match b s1 h1 with
      | .nx s2 h2 => forL ok g b xs s2 h2
      | .ct s2 h2 => forL ok g b xs s2 h2
      | .bk s2 h2 => .nx s2 h2
      | .rt d h2 => .rt d h2
      | .ex e s2 h2 => .ex e s2 h2
      | .st => .st
    | none => .st
    else .st
def sFor (m : MI) (g : MG) (b : MS) : MS := fun s h => (m s h).bindS s fun k h1 => forL k.ok g b k.xs s h1
theorem OutS.bindW {w : Wd} {c : Cf} {H : Hp} {W : WX} {D : Ends} {s : Sl} {σ : L2.St} (S : RelS w c s σ) {f : Walk → AH → RS} : ∀ {r : Res Walk}, OutS w c H W D (r.bindS s f) →
    OutW w c H (fun cls dd H' => W cls dd σ H') (fun J H1 => ∃ c1 h1 k, Rel w c1 h1 H1 ∧ Ext c H c1 H1 ∧ ItOk w c1 H1 J k ∧ OutS w c1 H1 W D (f k h1)) r
  | .ok k h', o => fun c' J H' R e i => ⟨c', h', k, R, e, i, OutS.shift e o⟩
  | .ex _ _, o => fun c' cls dd H' R e x => o c' cls dd σ H' R e (S.ext e) x
  | .st, o => o
theorem OutW.mono {w : Wd} {c : Cf} {H : Hp} {E : XK} {R R' : It → Hp → Prop} (q : ∀ J H', R J H' → R' J H') : ∀ {r : Res Walk}, OutW w c H E R r → OutW w c H E R' r
  | .ok _ _, o => fun c' b H' R e a => q _ _ (o c' b H' R e a)
  | .ex _ _, o => o
  | .st, o => o
theorem s_for {body : List Stmt} {mi : MI} {g : MG} {mb : MS} (hp : PassesOwn (model X.prog X.w) X.A X.env X.xe) (hc : X.calm = true) (hi : PI X tg iter (tI (Wd.mk X.K T) W mi)) (hg : PG X tg (tG (Wd.mk X.K T) g)) (hb : PSs X body (tS (Wd.mk X.K T) W mb)) (hs : ∀ x, foldedSetIterable iter X.env x = pure x := by intro _; rfl) :
    PS X (.For tg iter body [] pos) (tS (Wd.mk X.K T) W (sFor mi g mb)) :=
  PSi (ps_for hp hc hi hg hb hs) fun D σ H ⟨c, s, h, R0, S, z⟩ => by
    refine ⟨c, s, h, R0, S, (OutS.bindW S z).mono ?_⟩
    rintro J H1 ⟨c1, h1, k, R1, E1, hit, o⟩
    refine ⟨fun i m σ' H' => i ≤ k.xs.length ∧ m = k.xs.length - i ∧ ∃ c' s' h', Rel (Wd.mk X.K T) c' h' H' ∧ RelS (Wd.mk X.K T) c' s' σ' ∧ Ext c1 H1 c' H' ∧ OutS (Wd.mk X.K T) c' H' W D (forL k.ok g mb (k.xs.drop i) s' h'), ⟨_, Nat.zero_le _, rfl, c1, s, h1, R1, S.ext E1, .refl R1.sub, by rw [List.drop_zero]; exact o⟩, ?_⟩
    rintro i m σ' H' ⟨hil, rfl, c', s', h', R', S', E', o'⟩
    by_cases hlt : i < k.xs.length
    · right
      have hd : k.xs.drop i = k.xs[i] :: k.xs.drop (i + 1) := List.drop_eq_getElem_cons hlt
      rw [hd] at o'
      simp only [forL] at o'
      split at o'
      · rename_i hk
        have hi := (hit c' h' H' i R' E' hk).2 k.xs[i] (by simp [hlt])
        refine ⟨hi.1, fun σ2 H2 => ∃ c2 s2 h2, Rel (Wd.mk X.K T) c2 h2 H2 ∧ RelS (Wd.mk X.K T) c2 s2 σ2 ∧ Ext c1 H1 c2 H2 ∧ OutS (Wd.mk X.K T) c2 H2 W D (forL k.ok g mb (k.xs.drop (i + 1)) s2 h2), fun σ2 H2 q => ⟨_, Nat.sub_lt_sub_left hlt (Nat.lt_succ_self i), hlt, rfl, q⟩, fun x H2 y => ?_⟩
        obtain ⟨c2, R2, E2, r2⟩ := hi.2 x H2 y
        refine ⟨c2, s', h', k.xs[i], R2, S'.ext E2, r2, ?_⟩
        have o2 := OutS.shift E2 o'
        cases q : g k.xs[i] s' h' with
        | none => rw [q] at o2; exact o2.elim
        | some p =>
          obtain ⟨s3, h3⟩ := p
          rw [q] at o2
          intro c3 σ3 H3 R3 E3 S3
          refine ⟨c3, s3, h3, R3, S3, ?_⟩
          have o3 := OutS.shift E3 o2
          have E13 := (E'.trans E2).trans E3
          dsimp only at o3
          cases q3 : mb s3 h3 with
          | nx s4 h4 => rw [q3] at o3; exact fun c4 σ4 H4 R4 E4 S4 => ⟨c4, s4, h4, R4, S4, E13.trans E4, OutS.shift E4 o3⟩
          | ct s4 h4 => rw [q3] at o3; exact fun c4 σ4 H4 R4 E4 S4 => ⟨c4, s4, h4, R4, S4, E13.trans E4, OutS.shift E4 o3⟩
          | bk s4 h4 => rw [q3] at o3; exact o3
          | rt d h4 => rw [q3] at o3; exact o3
          | ex e s4 h4 => rw [q3] at o3; exact o3
          | st => rw [q3] at o3; exact o3
      · exact o'.elim
    · left
      have he : i = k.xs.length := by omega
      rw [List.drop_eq_nil_of_le (by omega)] at o'
      simp only [forL] at o'
      split at o'
      · rename_i hk
        exact ⟨(hit c' h' H' i R' E' hk).1 he, o' c' σ' H' R' (.refl R'.sub) S'⟩
      · exact o'.elim
/-! ### while: at most n turns -/
def whL (t : MT) (b : MS) : Nat → Sl → AH → RS
  | 0, _, _ => .st
  | n + 1, s, h => (t s h).bindS s fun k h1 => if k = true then match b s h1 with
    | .nx s2 h2 => whL t b n s2 h2
    | .ct s2 h2 => whL t b n s2 h2
    | .bk s2 h2 => .nx s2 h2
    | .rt d h2 => .rt d h2
    | .ex e s2 h2 => .ex e s2 h2
    | .st => .st
    else .nx s h1
def sWhile (n : Nat) (t : MT) (b : MS) : MS := fun s h => whL t b n s h
theorem s_while {n : Nat} {test : Expr} {body : List Stmt} {mt : MT} {mb : MS} (hp : PassesOwn (model X.prog X.w) X.A X.env X.xe) (ht : PT X test (tT (Wd.mk X.K T) W mt)) (hb : PSs X body (tS (Wd.mk X.K T) W mb)) : PS X (.While test body [] pos) (tS (Wd.mk X.K T) W (sWhile n mt mb)) :=
  PSi (ps_while hp ht hb) fun D σ H ⟨c, s, h, R0, S, z⟩ => by
    refine ⟨fun m σ' H' => ∃ c' s' h', Rel (Wd.mk X.K T) c' h' H' ∧ RelS (Wd.mk X.K T) c' s' σ' ∧ OutS (Wd.mk X.K T) c' H' W D (whL mt mb m s' h'), ⟨n, c, s, h, R0, S, z⟩, ?_⟩
    rintro m σ' H' ⟨c', s', h', R', S', o'⟩
    cases m with
    | zero => exact o'.elim
    | succ m =>
      refine ⟨c', s', h', R', S', (OutS.bind (A := fun _ a b => a = b) S' o').mono ?_⟩
      rintro k H2 ⟨c2, h2, k', R2, E2, rfl, o2⟩
      cases k' with
      | false => exact o2 c2 σ' H2 R2 (.refl R2.sub) (S'.ext E2)
      | true =>
        rw [if_pos rfl] at o2 ⊢
        refine ⟨fun σ3 H3 => ∃ c3 s3 h3, Rel (Wd.mk X.K T) c3 h3 H3 ∧ RelS (Wd.mk X.K T) c3 s3 σ3 ∧ OutS (Wd.mk X.K T) c3 H3 W D (whL mt mb m s3 h3), fun σ3 H3 q => ⟨m, Nat.lt_succ_self m, q⟩, c2, s', h2, R2, S'.ext E2, ?_⟩
        cases q3 : mb s' h2 with
        | nx s4 h4 => rw [q3] at o2; exact fun c4 σ4 H4 R4 E4 S4 => ⟨c4, s4, h4, R4, S4, OutS.shift E4 o2⟩
        | ct s4 h4 => rw [q3] at o2; exact fun c4 σ4 H4 R4 E4 S4 => ⟨c4, s4, h4, R4, S4, OutS.shift E4 o2⟩
        | bk s4 h4 => rw [q3] at o2; exact o2
        | rt d h4 => rw [q3] at o2; exact o2
        | ex e s4 h4 => rw [q3] at o2; exact o2
        | st => rw [q3] at o2; exact o2

/-! ### comprehensions -/
def gNms : List Nat → TGs
  | [] => gNil
  | i :: is => gCons (gName i) (gNms is)
def setAll (s : Sl) : List Nat → List D → Option Sl
  | [], [] => some s
  | i :: is, d :: ds => setAll (s.set i (some d)) is ds
  | _, _ => none
def wipeD (s : Sl) : List Nat → Sl
  | [] => s
  | v :: vs => (wipeD s vs).set v none
/-- a comprehension's target: one name, a tuple of names -/
inductive CT where
  | one (i : Nat) | tup (is : List Nat)
def CT.set (d : D) (s : Sl) : CT → Option Sl
  | .one i => some (s.set i (some d))
  | .tup is => match seqT d with
    | some ds => if ds.length = is.length then setAll s is ds else none
    | none => none
def CT.tgt (K : PySem.W.Frag) : CT → TG
  | .one i => gName i
  | .tup is => gTup K is.length (gNms is)
def CT.sub (own : List Nat) : CT → Bool
  | .one i => own.contains i
  | .tup is => is.all own.contains
def compL (ok : AH → Bool) (own : List Nat) (g : CT) (t : MT) (e : ME) : List D → Sl → AH → List D → Res (List D)
  | [], _, h, acc => if ok h = true then .ok acc h else .st
  | x :: xs, s, h, acc => if ok h = true then match g.set x (wipeD s own) with
    | some s1 => match t s1 h with
      | .ok b h2 => if b = true then match e s1 h2 with
          | .ok y h3 => if acc.length < 100000 then compL ok own g t e xs s h3 (acc ++ [y]) else .st
          | _ => .st
        else compL ok own g t e xs s h2 acc
      | _ => .st
    | none => .st
    else .st
def eComp (own : List Nat) (m : MI) (g : CT) (t : MT) (e : ME) : ME := fun s h => (m s h).bind fun k h1 => (compL k.ok own g t e k.xs s h1 []).bind fun ys h2 => .ok (.lst ys) h2
/-- .. a list that is written later -/
def eCompN (own : List Nat) (m : MI) (g : CT) (t : MT) (e : ME) : ME := fun s h => (m s h).bind fun k h1 => (compL k.ok own g t e k.xs s h1 []).bind fun ys h2 => .ok (.ref h2.n) (h2.new (.lst ys))
def tYesD : MT := fun _ h => .ok true h
theorem RelS.wipe {w : Wd} {c : Cf} {s : Sl} {σ : L2.St} (S : RelS w c s σ) : ∀ vs : List Nat, RelS w c (wipeD s vs) (L2.wipe σ vs)
  | [] => S
  | v :: vs => (RelS.wipe S vs).wipe1
theorem wipe_get (σ : L2.St) : ∀ (vs : List Nat) (k : Nat), (L2.wipe σ vs)[k]? = if k ∈ vs then (if k < σ.length then some none else none) else σ[k]?
  | [], k => by simp [L2.wipe]
  | v :: vs, k => by
    simp only [L2.wipe, List.getElem?_set, L2.wipe_length, wipe_get σ vs k, List.mem_cons]
    by_cases e : v = k
    · subst e
      simp
    · have e' : ¬ k = v := fun z => e z.symm
      simp [e, e']
theorem wipe_set {σ : L2.St} {own : List Nat} {i : Nat} {o : Option V} (h : i ∈ own) : L2.wipe (σ.set i o) own = L2.wipe σ own := by
  refine List.ext_getElem? fun k => ?_
  rw [wipe_get, wipe_get, List.length_set]
  by_cases e : k ∈ own
  · rw [if_pos e, if_pos e]
  · rw [if_neg e, if_neg e, List.getElem?_set_ne (fun z => e (by rw [← z]; exact h))]
theorem wipe_idem {σ : L2.St} {own : List Nat} : L2.wipe (L2.wipe σ own) own = L2.wipe σ own := by
  refine List.ext_getElem? fun k => ?_
  rw [wipe_get, wipe_get, L2.wipe_length]
  by_cases e : k ∈ own
  · rw [if_pos e, if_pos e]
  · rw [if_neg e, if_neg e]
theorem nms_ok {w : Wd} {c : Cf} {own : List Nat} {H : Hp} {σ0 : L2.St} : ∀ {is : List Nat} {s s1 : Sl} {ds : List D} {vs : List V} {σ : L2.St} {Q : L2.St → Hp → Prop}, RelS w c s σ → RepL w c ds vs → setAll s is ds = some s1 → (∀ i ∈ is, i ∈ own) → L2.wipe σ own = L2.wipe σ0 own →
    (∀ σ2, RelS w c s1 σ2 → L2.wipe σ2 own = L2.wipe σ0 own → Q σ2 H) → gNms is vs σ H Q
  | [], s, s1, [], vs, σ, Q, S, r, e, hs, hw, q => by
    cases e
    exact ⟨by simpa [RepL] using r, q σ S hw⟩
  | i :: is, s, s1, d :: ds, vs, σ, Q, S, r, e, hs, hw, q => by
    simp only [RepL] at r
    obtain ⟨y, ys, rfl, r1, r2⟩ := r
    refine ⟨y, ys, rfl, nms_ok (S.set r1) r2 e (fun j hj => hs j (List.mem_cons_of_mem _ hj)) ?_ q⟩
    rw [wipe_set (hs i List.mem_cons_self)]
    exact hw
  | [], _, _, _ :: _, _, _, _, _, _, e, _, _, _ => by cases e
  | _ :: _, _, _, [], _, _, _, _, _, e, _, _, _ => by cases e
theorem ct_ok {w : Wd} {c : Cf} {h : AH} {own : List Nat} {H : Hp} {g : CT} {s s1 : Sl} {d : D} {v : V} {σ : L2.St} {Q : L2.St → Hp → Prop} (R : Rel w c h H) (S : RelS w c s σ) (r : Rep w c d v) (e : g.set d (wipeD s own) = some s1) (hs : g.sub own = true)
    (q : ∀ σ2, RelS w c s1 σ2 → L2.wipe σ2 own = L2.wipe σ own → Q σ2 H) : g.tgt w.K v (L2.wipe σ own) H Q := by
  cases g with
  | one i =>
    cases e
    simp only [CT.sub, List.contains_iff_mem] at hs
    exact q _ ((S.wipe own).set r) (by rw [wipe_set hs, wipe_idem])
  | tup is =>
    simp only [CT.set] at e
    split at e
    · rename_i ds ed
      split at e
      · rename_i hl
        obtain ⟨a, vs, rfl, t, rl⟩ := seqT_ok R r ed
        refine ⟨a, vs, rfl, t, by rw [← rl.len]; exact hl, nms_ok (σ0 := σ) (S.wipe own) rl e (fun i hi => ?_) wipe_idem q⟩
        simp only [CT.sub, List.all_eq_true, List.contains_iff_mem] at hs
        exact hs i hi
      · cases e
    · cases e
/-- the reading of a comprehension, its list handed on by fin -/
theorem lc_ok {mi : MI} {g : CT} {mt : MT} {me : ME} {own : List Nat} {σ : L2.St} {H : Hp} {Q : VK} (hs : g.sub own = true) {c : Cf} {s : Sl} {h : AH} (R0 : Rel (Wd.mk X.K T) c h H) (S : RelS (Wd.mk X.K T) c s σ) {fin : List D → AH → Res D}
    (o : Out (Wd.mk X.K T) c H (fun cls dd H' => W cls dd σ H') (Rep (Wd.mk X.K T)) Q ((mi s h).bind fun k h1 => (compL k.ok own g mt me k.xs s h1 []).bind fun ys h2 => fin ys h2))
    (hf : ∀ c1 H1 c2 h2 H2 ys vs p, Rel (Wd.mk X.K T) c2 h2 H2 → Ext c1 H1 c2 H2 → H1 p = none → c2.G p = none → H2 p = some (.lst vs) → RepL (Wd.mk X.K T) c2 ys vs → Out (Wd.mk X.K T) c1 H1 (fun cls dd H' => W cls dd σ H') (Rep (Wd.mk X.K T)) Q (fin ys h2) → Q (.ref p) H2) :
    tLc (tI (Wd.mk X.K T) W mi) (g.tgt X.K) (tT (Wd.mk X.K T) (fun _ _ _ _ => False) mt) (tM (Wd.mk X.K T) (fun _ _ _ _ => False) me) own σ H Q := by
  have o1 : OutW (Wd.mk X.K T) c H (fun cls dd H' => W cls dd σ H') (fun J H1 => ∃ c1 h1 k, Rel (Wd.mk X.K T) c1 h1 H1 ∧ Ext c H c1 H1 ∧ ItOk (Wd.mk X.K T) c1 H1 J k ∧ Out (Wd.mk X.K T) c1 H1 (fun cls dd H' => W cls dd σ H') (Rep (Wd.mk X.K T)) Q ((compL k.ok own g mt me k.xs s h1 []).bind fin)) (mi s h) := by
    cases q : mi s h with
    | ok k h1 => rw [q] at o; exact fun c' J H' R' E' i => ⟨c', h1, k, R', E', i, Out.shift E' o⟩
    | ex e h1 => rw [q] at o; exact o
    | st => rw [q] at o; exact o
  refine ⟨c, s, h, R0, S, OutW.mono ?_ o1⟩
  rintro J H1 ⟨c1, h1, k, R1, E1, hit, o2⟩ p hp
  have S1 := S.ext E1
  refine ⟨fun i m H' => i ≤ k.xs.length ∧ m = k.xs.length - i ∧ ∃ c' h' acc vs, Rel (Wd.mk X.K T) c' h' H' ∧ RelS (Wd.mk X.K T) c' s σ ∧ Ext c1 H1 c' H' ∧ c'.G p = none ∧ H' p = some (.lst vs) ∧ RepL (Wd.mk X.K T) c' acc vs ∧ acc.length ≤ 100000 ∧
      Out (Wd.mk X.K T) c1 H1 (fun cls dd H' => W cls dd σ H') (Rep (Wd.mk X.K T)) Q ((compL k.ok own g mt me (k.xs.drop i) s h' acc).bind fin),
    ⟨_, Nat.zero_le _, rfl, c1, h1, [], [], R1.priv (R1.gfree hp), S1, (Ext.refl R1.sub).priv hp, R1.gfree hp, upd_same, .nil, Nat.zero_le _, by rw [List.drop_zero]; exact o2⟩, ?_⟩
  rintro i m H' ⟨hil, rfl, c', h', acc, vs, R', S', E', gp, hD, ra, la, o'⟩
  by_cases hlt : i < k.xs.length
  · right
    have hd : k.xs.drop i = k.xs[i] :: k.xs.drop (i + 1) := List.drop_eq_getElem_cons hlt
    rw [hd] at o'
    simp only [compL] at o'
    split at o'
    · rename_i hk
      have hi := (hit c' h' H' i R' E' hk).2 k.xs[i] (by simp [hlt])
      refine ⟨hi.1, fun H2 => ∃ c' h' acc vs, Rel (Wd.mk X.K T) c' h' H2 ∧ RelS (Wd.mk X.K T) c' s σ ∧ Ext c1 H1 c' H2 ∧ c'.G p = none ∧ H2 p = some (.lst vs) ∧ RepL (Wd.mk X.K T) c' acc vs ∧ acc.length ≤ 100000 ∧
        Out (Wd.mk X.K T) c1 H1 (fun cls dd H' => W cls dd σ H') (Rep (Wd.mk X.K T)) Q ((compL k.ok own g mt me (k.xs.drop (i + 1)) s h' acc).bind fin), fun H2 q => ⟨_, Nat.sub_lt_sub_left hlt (Nat.lt_succ_self i), hlt, rfl, q⟩, fun x H2 y => ?_⟩
      obtain ⟨c2, R2, E2, r2⟩ := hi.2 x H2 y
      cases q : g.set k.xs[i] (wipeD s own) with
      | none => rw [q] at o'; exact o'.elim
      | some s1 =>
        rw [q] at o'
        dsimp only at o'
        refine ct_ok (w := (Wd.mk X.K T)) R2 (S'.ext E2) r2 q hs fun σ2 S2 hw => ⟨hw, ?_⟩
        have nid := R'.noidG gp
        have kp : ∀ {c3 H3}, Ext c' H' c3 H3 → c3.G p = none ∧ H3 p = some (.lst vs) := fun e => ⟨e.gnone gp (by rw [hD]; exact nofun), e.keep p _ hD nid⟩
        refine ⟨c2, s1, h', R2, S2, ?_⟩
        cases q2 : mt s1 h' with
        | ok bb h3 =>
          rw [q2] at o'
          dsimp only at o'
          intro c3 b3 H3 R3 E3 e3
          subst e3
          cases bb with
          | false =>
            rw [if_neg Bool.false_ne_true] at o' ⊢
            have E23 := E2.trans E3
            exact ⟨c3, h3, acc, vs, R3, S'.ext E23, E'.trans E23, (kp E23).1, (kp E23).2, ra.ext E23, la, o'⟩
          | true =>
            rw [if_pos rfl] at o' ⊢
            refine ⟨c3, s1, h3, R3, S2.ext E3, ?_⟩
            cases q4 : me s1 h3 with
            | ok y h4 =>
              rw [q4] at o'
              dsimp only at o'
              intro c4 v4 H4 R4 E4 r4
              have E24 := (E2.trans E3).trans E4
              split at o'
              · rename_i hl4
                have g4 := (kp E24).1
                exact ⟨vs, (kp E24).2, Nat.lt_of_lt_of_le (by rw [← ra.len]; exact hl4) (size5 (Nat.le_refl _)), c4, h4, acc ++ [y], vs ++ [v4], R4.priv g4, S'.ext E24, (E'.trans E24).priv hp, g4, upd_same, (ra.ext E24).append (.cons r4 .nil), by simp; omega, o'⟩
              · exact o'.elim
            | ex e h4 => rw [q4] at o'; exact o'.elim
            | st => rw [q4] at o'; exact o'.elim
        | ex e h4 => rw [q2] at o'; exact o'.elim
        | st => rw [q2] at o'; exact o'.elim
    · exact o'.elim
  · left
    have he : i = k.xs.length := by omega
    rw [List.drop_eq_nil_of_le (by omega)] at o'
    simp only [compL] at o'
    split at o'
    · rename_i hk
      exact ⟨(hit c' h' H' i R' E' hk).1 he, hf c1 H1 c' h' H' acc vs p R' E' hp gp hD ra o'⟩
    · exact o'.elim
theorem fin_lst {σ : L2.St} {Q : VK} : ∀ c1 H1 c2 h2 H2 ys vs p, Rel (Wd.mk X.K T) c2 h2 H2 → Ext c1 H1 c2 H2 → H1 p = none → c2.G p = none → H2 p = some (.lst vs) → RepL (Wd.mk X.K T) c2 ys vs → Out (Wd.mk X.K T) c1 H1 (fun cls dd H' => W cls dd σ H') (Rep (Wd.mk X.K T)) Q (.ok (.lst ys) h2) → Q (.ref p) H2 := by
  intro c1 H1 c2 h2 H2 ys vs p R2 E2 hp gp hD r o
  obtain ⟨R3, M⟩ := R2.join gp hD
  refine o _ _ H2 R3 (E2.join hp) ?_
  simp only [Rep]
  exact ⟨p, vs, rfl, ⟨upd_same, R2.noidG gp⟩, r.mo M⟩
theorem fin_ref {σ : L2.St} {Q : VK} : ∀ c1 H1 c2 h2 H2 ys vs p, Rel (Wd.mk X.K T) c2 h2 H2 → Ext c1 H1 c2 H2 → H1 p = none → c2.G p = none → H2 p = some (.lst vs) → RepL (Wd.mk X.K T) c2 ys vs → Out (Wd.mk X.K T) c1 H1 (fun cls dd H' => W cls dd σ H') (Rep (Wd.mk X.K T)) Q (.ok (.ref h2.n) (h2.new (.lst ys))) → Q (.ref p) H2 := by
  intro c1 H1 c2 h2 H2 ys vs p R2 E2 hp gp hD r o
  obtain ⟨R3, M⟩ := R2.joinId gp hD (o := .lst ys) ⟨vs, rfl, r⟩
  refine o _ _ H2 R3 (E2.joinId hp) ?_
  simp only [Rep]
  exact ⟨by show V.ref p = V.ref (if h2.n = c2.n then p else _); rw [if_pos R2.n.symm], by show h2.n < c2.n + 1; rw [R2.n]; exact Nat.lt_succ_self _⟩
section
variable {elt : Expr} {ifs : List Expr} {scope : Scope} {own : List (Str × Nat)} {mi : MI} {g : CT} {mt : MT} {me : ME}
theorem r_comp (hc : X.calm = true) (hN : X.N.Nodup) (hi : PI X tg iter (tI (Wd.mk X.K T) W mi)) (ok : BlkOk X.N X.env.scope scope own)
    (hg : ∀ (s : Shared) (H : Hp) (C : Addr) (cl : List (Str × Addr)) (fp : List Addr), PG (X.blk s H scope (compEnvC scope cl C X.env) fp) tg (g.tgt X.K))
    (ht : ∀ (s : Shared) (H : Hp) (C : Addr) (cl : List (Str × Addr)) (fp : List Addr), PTs (X.blk s H scope (compEnvC scope cl C X.env) fp) ifs (tT (Wd.mk X.K T) (fun _ _ _ _ => False) mt))
    (he : ∀ (s : Shared) (H : Hp) (C : Addr) (cl : List (Str × Addr)) (fp : List Addr), PE (X.blk s H scope (compEnvC scope cl C X.env) fp) elt (tM (Wd.mk X.K T) (fun _ _ _ _ => False) me))
    (hs : g.sub (own.map (·.2)) = true := by rfl) (hs2 : ∀ x, foldedSetIterable iter X.env x = pure x := by intro _; rfl) :
    PE X (.ListComp elt [⟨tg, iter, ifs, 0⟩] scope pos) (tM (Wd.mk X.K T) W (eComp (own.map (·.2)) mi g mt me)) :=
  PEi (pe_lc hc hN hi ok hg ht he hs2) fun σ H Q ⟨c, s, h, R, S, o⟩ => lc_ok hs R S o fin_lst
theorem r_compN (hc : X.calm = true) (hN : X.N.Nodup) (hi : PI X tg iter (tI (Wd.mk X.K T) W mi)) (ok : BlkOk X.N X.env.scope scope own)
    (hg : ∀ (s : Shared) (H : Hp) (C : Addr) (cl : List (Str × Addr)) (fp : List Addr), PG (X.blk s H scope (compEnvC scope cl C X.env) fp) tg (g.tgt X.K))
    (ht : ∀ (s : Shared) (H : Hp) (C : Addr) (cl : List (Str × Addr)) (fp : List Addr), PTs (X.blk s H scope (compEnvC scope cl C X.env) fp) ifs (tT (Wd.mk X.K T) (fun _ _ _ _ => False) mt))
    (he : ∀ (s : Shared) (H : Hp) (C : Addr) (cl : List (Str × Addr)) (fp : List Addr), PE (X.blk s H scope (compEnvC scope cl C X.env) fp) elt (tM (Wd.mk X.K T) (fun _ _ _ _ => False) me))
    (hs : g.sub (own.map (·.2)) = true := by rfl) (hs2 : ∀ x, foldedSetIterable iter X.env x = pure x := by intro _; rfl) :
    PE X (.ListComp elt [⟨tg, iter, ifs, 0⟩] scope pos) (tM (Wd.mk X.K T) W (eCompN (own.map (·.2)) mi g mt me)) :=
  PEi (pe_lc hc hN hi ok hg ht he hs2) fun σ H Q ⟨c, s, h, R, S, o⟩ => lc_ok hs R S o fin_ref
/-- name = [..] -/
theorem s_comp {i : Nat} {y : Str} {py spos : Pos} (hc : X.calm = true) (hN : X.N.Nodup) (hi : PI X tg iter (tI (Wd.mk X.K T) W mi)) (ok : BlkOk X.N X.env.scope scope own)
    (hg : ∀ (s : Shared) (H : Hp) (C : Addr) (cl : List (Str × Addr)) (fp : List Addr), PG (X.blk s H scope (compEnvC scope cl C X.env) fp) tg (g.tgt X.K))
    (ht : ∀ (s : Shared) (H : Hp) (C : Addr) (cl : List (Str × Addr)) (fp : List Addr), PTs (X.blk s H scope (compEnvC scope cl C X.env) fp) ifs (tT (Wd.mk X.K T) (fun _ _ _ _ => False) mt))
    (he : ∀ (s : Shared) (H : Hp) (C : Addr) (cl : List (Str × Addr)) (fp : List Addr), PE (X.blk s H scope (compEnvC scope cl C X.env) fp) elt (tM (Wd.mk X.K T) (fun _ _ _ _ => False) me))
    (hsw : swapsWith (.ListComp elt [⟨tg, iter, ifs, 0⟩] scope pos) (some (.Name y py)) spos.line X.env = pure true) (hy : X.N[i]? = some y := by rfl) (hyl : X.env.scope.names.lookup y = some .local := by rfl)
    (hs : g.sub (own.map (·.2)) = true := by rfl) (hs2 : ∀ x, foldedSetIterable iter X.env x = pure x := by intro _; rfl) :
    PS X (.Assign [.Name y py] (.ListComp elt [⟨tg, iter, ifs, 0⟩] scope pos) spos) (tS (Wd.mk X.K T) W (sSet i (eComp (own.map (·.2)) mi g mt me))) :=
  PSi (ps_setLc hc hN hy hyl hsw hi ok hg ht he hs2) fun D σ H ⟨c, s, h, R, S, o⟩ => by
    have o2 := OutS.bind (A := Rep (Wd.mk X.K T)) S o
    refine lc_ok (W := W) (Q := fun x H1 => gName i x σ H1 D.nx) hs R S (fin := fun ys h2 => .ok (.lst ys) h2) (o2.mono ?_) fin_lst
    rintro v H1 ⟨c1, h1, d, R1, E1, r1, o1⟩
    exact o1 c1 _ H1 R1 (.refl R1.sub) ((S.ext E1).set r1)
theorem s_compN {i : Nat} {y : Str} {py spos : Pos} (hc : X.calm = true) (hN : X.N.Nodup) (hi : PI X tg iter (tI (Wd.mk X.K T) W mi)) (ok : BlkOk X.N X.env.scope scope own)
    (hg : ∀ (s : Shared) (H : Hp) (C : Addr) (cl : List (Str × Addr)) (fp : List Addr), PG (X.blk s H scope (compEnvC scope cl C X.env) fp) tg (g.tgt X.K))
    (ht : ∀ (s : Shared) (H : Hp) (C : Addr) (cl : List (Str × Addr)) (fp : List Addr), PTs (X.blk s H scope (compEnvC scope cl C X.env) fp) ifs (tT (Wd.mk X.K T) (fun _ _ _ _ => False) mt))
    (he : ∀ (s : Shared) (H : Hp) (C : Addr) (cl : List (Str × Addr)) (fp : List Addr), PE (X.blk s H scope (compEnvC scope cl C X.env) fp) elt (tM (Wd.mk X.K T) (fun _ _ _ _ => False) me))
    (hsw : swapsWith (.ListComp elt [⟨tg, iter, ifs, 0⟩] scope pos) (some (.Name y py)) spos.line X.env = pure true) (hy : X.N[i]? = some y := by rfl) (hyl : X.env.scope.names.lookup y = some .local := by rfl)
    (hs : g.sub (own.map (·.2)) = true := by rfl) (hs2 : ∀ x, foldedSetIterable iter X.env x = pure x := by intro _; rfl) :
    PS X (.Assign [.Name y py] (.ListComp elt [⟨tg, iter, ifs, 0⟩] scope pos) spos) (tS (Wd.mk X.K T) W (sSet i (eCompN (own.map (·.2)) mi g mt me))) :=
  PSi (ps_setLc hc hN hy hyl hsw hi ok hg ht he hs2) fun D σ H ⟨c, s, h, R, S, o⟩ => by
    have o2 := OutS.bind (A := Rep (Wd.mk X.K T)) S o
    refine lc_ok (W := W) (Q := fun x H1 => gName i x σ H1 D.nx) hs R S (fin := fun ys h2 => .ok (.ref h2.n) (h2.new (.lst ys))) (o2.mono ?_) fin_ref
    rintro v H1 ⟨c1, h1, d, R1, E1, r1, o1⟩
    exact o1 c1 _ H1 R1 (.refl R1.sub) ((S.ext E1).set r1)
end
theorem ts_nil : PTs X [] (tT (Wd.mk X.K T) W tYesD) := ⟨fun pins s σ H Q I ⟨c, sl, h, R, S, o⟩ => pts_nil.run pins s σ H Q I (o c true H R (.refl R.sub) rfl)⟩
theorem ts_one {e : Expr} {mt : MT} (h : PT X e (tT (Wd.mk X.K T) W mt)) : PTs X [e] (tT (Wd.mk X.K T) W mt) := pts_one h
end
end MP
set_option Elab.async false
set_option linter.all false
set_option maxRecDepth 100000
set_option maxHeartbeats 4000000
/-! mirrors: operations on values -/
namespace MP
open PySem PySem.Spec L2
open PyProof.Rows hiding St

/-! ### numbers, texts, tuples, lists -/
def pAdd (h : AH) : D → D → Option D
  | .int i, .int j => some (.int (i + j))
  | .str a, .str b => if a.length + b.length ≤ 100000 then some (.str (a ++ b)) else none
  | .tup xs, .tup ys => if xs ≠ [] ∧ xs.length + ys.length ≤ 100000 then some (.tup (xs ++ ys)) else none
  | x, y => match seqM h x, seqM h y with
    | some xs, some ys => if xs.length + ys.length ≤ 100000 then some (.lst (xs ++ ys)) else none
    | _, _ => none
def pSub (_ : AH) : D → D → Option D
  | .int i, .int j => some (.int (i - j))
  | _, _ => none
def pMul (_ : AH) : D → D → Option D
  | .int i, .int j => if (-(2 ^ 64) < i ∧ i < 2 ^ 64) ∨ (-(2 ^ 64) < j ∧ j < 2 ^ 64) then some (.int (i * j)) else none
  | _, _ => none
def pDiv (_ : AH) : D → D → Option D
  | .int i, .int j => if 0 < j ∧ j < 2 ^ 200 then some (.int (i / j)) else none
  | _, _ => none
def pMod (_ : AH) : D → D → Option D
  | .int i, .int j => if 0 < j then some (.int (i % j)) else none
  | _, _ => none
def pPow (_ : AH) : D → D → Option D
  | .int i, .int j => if 0 ≤ j ∧ j ≤ 1000 ∧ i.natAbs < 2 ^ 200 then some (.int (i ^ j.toNat)) else none
  | _, _ => none
def pNeg (_ : AH) : D → Option D
  | .int i => some (.int (-i))
  | _ => none
def pLt (_ : AH) : D → D → Option D
  | .int i, .int j => some (.bl (decide (i < j)))
  | _, _ => none
def pLe (_ : AH) : D → D → Option D
  | .int i, .int j => some (.bl (decide (i ≤ j)))
  | _, _ => none
def pGt (_ : AH) : D → D → Option D
  | .int i, .int j => some (.bl (decide (j < i)))
  | _, _ => none
def pGe (_ : AH) : D → D → Option D
  | .int i, .int j => some (.bl (decide (j ≤ i)))
  | _, _ => none
/-- data as the library's == and repr take it -/
def PyLst (ds : List PyData) : PyData := .list ds
mutual
def pdI : D → Option PyData
  | .non => some .none
  | .bl b => some (.bool b)
  | .int i => some (.int i)
  | .str x => some (.str x)
  | .tup ds => match pdL ds with
    | some l => some (.tuple l)
    | none => none
  | .lst ds => match pdL ds with
    | some l => some (.list l)
    | none => none
  | .fz ds => match pdL ds with
    | some l => some (.list l)
    | none => none
  | .ref _ => none
  | .con _ => none
def pdL : List D → Option (List PyData)
  | [] => some []
  | d :: ds => match pdI d, pdL ds with
    | some x, some xs => some (x :: xs)
    | _, _ => none
end
def pd (h : AH) (d : D) : Option PyData := match d with
  | .ref k => match h.g k with
    | some (.lst xs) => match pdL xs with
      | some l => some (.list l)
      | none => none
    | _ => none
  | d => pdI d
def sEq : D → D → Option Bool
  | .non, .non => some true
  | .non, .int _ => some false
  | .int _, .non => some false
  | .non, .str _ => some false
  | .str _, .non => some false
  | .int i, .int j => some (i == j)
  | .bl i, .bl j => some (i == j)
  | .str i, .str j => some (decide (i = j))
  | .int _, .str _ => some false
  | .str _, .int _ => some false
  | _, _ => none
def pEqB (h : AH) (x y : D) : Option Bool := match sEq x y with
  | some b => some b
  | none => match pd h x, pd h y with
    | some a, some b => if SeqAt.shaped a = true ∧ SeqAt.shaped b = true then some (PyData.eqv a b) else none
    | _, _ => none
def pEq (h : AH) (x y : D) : Option D := match pEqB h x y with
  | some b => some (.bl b)
  | none => none
def pNe (h : AH) (x y : D) : Option D := match pEqB h x y with
  | some b => some (.bl (!b))
  | none => none
def isNon : D → Bool
  | .non => true
  | _ => false
def pIs (_ : AH) (x y : D) : Option D := match y with
  | .non => some (.bl (isNon x))
  | _ => none
def pIsNot (_ : AH) (x y : D) : Option D := match y with
  | .non => some (.bl (!isNon x))
  | _ => none
/-- an index, from behind too -/
def atD (xs : List D) (i : Int) : Option D := atI xs i
def pIx (h : AH) (x y : D) : Option D := match y with
  | .int i => match x with
    | .tup xs => atI xs i
    | .str z => if z.length ≤ 100000 then (atI z.cps.toList i).map fun c => .str ⟨#[c]⟩ else none
    | _ => match seqL h x with
      | some xs => atI xs i
      | none => none
  | _ => none

section
variable {w : Wd}
theorem rp_int {c : Cf} {i : Int} {v : V} (r : Rep w c (.int i) v) : v = .int i := by simpa [Rep] using r
theorem rp_bl {c : Cf} {i : Bool} {v : V} (r : Rep w c (.bl i) v) : v = .bl i := by simpa [Rep] using r
theorem rp_str {c : Cf} {i : Str} {v : V} (r : Rep w c (.str i) v) : v = .str i := by simpa [Rep] using r
theorem rp_non {c : Cf} {v : V} (r : Rep w c .non v) : v = .non := by simpa [Rep] using r
abbrev rAddA (K : PySem.W.Frag) : L2.R2 := fun x y H Q => rI0 (fun i j => .int (i + j)) x y H Q ∨ (∃ i j, x = .str i ∧ y = .str j ∧ i.length + j.length ≤ sizeLine ∧ Q (.str (i ++ j)) H) ∨ rCatT K x y H Q ∨ rCat x y H Q
theorem o_add {X : Cx} : OpR X (binaryOp .Add) (rAddA X.K) := op_add.or (op_add_str.or (op_catT.or op_cat))
theorem catL {c : Cf} {h : AH} {H : Hp} {x y z : D} {v u : V} {Q : VK} (R : Rel w c h H) (rx : Rep w c x v) (ry : Rep w c y u) (e : (match seqM h x, seqM h y with
    | some xs, some ys => if xs.length + ys.length ≤ 100000 then some (D.lst (xs ++ ys)) else none
    | _, _ => none) = some z) (G : Gives w c h H z Q) : rCat v u H Q := by
  split at e
  · rename_i xs ys e1 e2
    split at e
    · rename_i hl
      cases e
      obtain ⟨a, vs, rfl, ha, r1⟩ := seqM_ok R rx e1
      obtain ⟨b, us, rfl, hb, r2⟩ := seqM_ok R ry e2
      exact ⟨a, b, vs, us, rfl, rfl, ha, hb, by rw [← r1.len, ← r2.len]; exact size5 hl, fun p hp => G.lst R (r1.append r2) p hp⟩
    · cases e
  · cases e
theorem g_add : Op2 w (rAddA w.K) pAdd := by
  intro c h H x y z v u Q R rx ry e G
  unfold pAdd at e
  split at e
  · cases e
    exact .inl ⟨_, _, rp_int rx, rp_int ry, G.int R⟩
  · split at e
    · rename_i hl
      cases e
      exact .inr (.inl ⟨_, _, rp_str rx, rp_str ry, size5 hl, G.str R⟩)
    · cases e
  · split at e
    · rename_i xs ys hl
      cases e
      obtain ⟨a, vs, rfl, ha, r1⟩ := seqT_ok R rx rfl
      obtain ⟨b, us, rfl, hb, r2⟩ := seqT_ok R ry rfl
      refine .inr (.inr (.inl ⟨a, b, vs, us, rfl, rfl, ha, hb, ?_, by rw [← r1.len, ← r2.len]; exact size5 hl.2, fun q => ?_, fun _ p hp => G.tup R (r1.append r2) p hp⟩))
      · intro q
        have := r1.len
        rw [q] at this
        exact hl.1 (List.length_eq_zero_iff.mp this)
      · have e0 := r2.len
        rw [q] at e0
        have : ys = [] := List.length_eq_zero_iff.mp e0
        subst this
        rw [List.append_nil] at G
        exact G.same R rx
    · cases e
  · exact .inr (.inr (.inr (catL R rx ry e G)))
theorem g_sub : Op2 w (rI0 fun i j => .int (i - j)) pSub := by
  intro c h H x y z v u Q R rx ry e G
  unfold pSub at e
  split at e
  · cases e
    exact ⟨_, _, rp_int rx, rp_int ry, G.int R⟩
  · cases e
theorem g_mul : Op2 w (rI CMul fun i j => .int (i * j)) pMul := by
  intro c h H x y z v u Q R rx ry e G
  unfold pMul at e
  split at e
  · split at e
    · rename_i hc
      cases e
      exact ⟨_, _, rp_int rx, rp_int ry, hc, G.int R⟩
    · cases e
  · cases e
theorem div_ok {j : Int} (h : 0 < j ∧ j < 2 ^ 200) : CDivW i j := wide_div (b := 200) h.1 (by have := h.2; omega) (by decide) (by decide)
theorem g_div : Op2 w (rI CDivW fun i j => .int (i / j)) pDiv := by
  intro c h H x y z v u Q R rx ry e G
  unfold pDiv at e
  split at e
  · split at e
    · rename_i hc
      cases e
      exact ⟨_, _, rp_int rx, rp_int ry, div_ok hc, G.int R⟩
    · cases e
  · cases e
theorem g_mod : Op2 w (rI (fun _ j => 0 < j) fun i j => .int (i % j)) pMod := by
  intro c h H x y z v u Q R rx ry e G
  unfold pMod at e
  split at e
  · split at e
    · rename_i hc
      cases e
      exact ⟨_, _, rp_int rx, rp_int ry, hc, G.int R⟩
    · cases e
  · cases e
def CPow2 (i j : Int) : Prop := 0 ≤ j ∧ j ≤ 1000 ∧ i.natAbs < 2 ^ 200
theorem pow_bits {a n : Int} (ha : a.natAbs < 2 ^ 200) (h0 : 0 ≤ n) (hn : n ≤ 1000) : (Builtin.Int.intBits a : Int) * n ≤ 2 ^ 27 := by
  have hb : Builtin.Int.intBits a ≤ 201 := by
    have := PySem.Flt.log2_lt_of (by decide) ha
    unfold Builtin.Int.intBits
    split <;> omega
  have h1 : (Builtin.Int.intBits a : Int) * n ≤ 201 * n := Int.mul_le_mul_of_nonneg_right (by omega) h0
  omega
theorem op_pow2 {X : Cx} : OpR X (binaryOp .Pow) (rI CPow2 fun i j => .int (i ^ j.toNat)) := opI fun _ _ _ _ _ _ _ hc q => pow_int hc.1 (pow_bits hc.2.2 hc.1 hc.2.1) q
theorem g_pow : Op2 w (rI CPow2 fun i j => .int (i ^ j.toNat)) pPow := by
  intro c h H x y z v u Q R rx ry e G
  unfold pPow at e
  split at e
  · split at e
    · rename_i hc
      cases e
      exact ⟨_, _, rp_int rx, rp_int ry, hc, G.int R⟩
    · cases e
  · cases e
theorem g_neg : Op1 w (rU fun i => .int (-i)) pNeg := by
  intro c h H x z v Q R rx e G
  unfold pNeg at e
  split at e
  · cases e
    exact ⟨_, rp_int rx, G.int R⟩
  · cases e
theorem g_lt : Op2 w (rI0 fun i j => .bl (decide (i < j))) pLt := by
  intro c h H x y z v u Q R rx ry e G
  unfold pLt at e
  split at e
  · cases e
    exact ⟨_, _, rp_int rx, rp_int ry, G.bl R⟩
  · cases e
theorem g_le : Op2 w (rI0 fun i j => .bl (decide (i ≤ j))) pLe := by
  intro c h H x y z v u Q R rx ry e G
  unfold pLe at e
  split at e
  · cases e
    exact ⟨_, _, rp_int rx, rp_int ry, G.bl R⟩
  · cases e
theorem g_gt : Op2 w (rI0 fun i j => .bl (decide (j < i))) pGt := by
  intro c h H x y z v u Q R rx ry e G
  unfold pGt at e
  split at e
  · cases e
    exact ⟨_, _, rp_int rx, rp_int ry, G.bl R⟩
  · cases e
theorem g_ge : Op2 w (rI0 fun i j => .bl (decide (j ≤ i))) pGe := by
  intro c h H x y z v u Q R rx ry e G
  unfold pGe at e
  split at e
  · cases e
    exact ⟨_, _, rp_int rx, rp_int ry, G.bl R⟩
  · cases e
theorem non_iff {c : Cf} {x : D} {v : V} (r : Rep w c x v) : decide (v = .non) = isNon x := by
  cases x <;> simp only [Rep] at r
  case non => subst r; rfl
  case bl => subst r; rfl
  case int => subst r; rfl
  case str => subst r; rfl
  case tup => obtain ⟨a, vs, rfl, _⟩ := r; rfl
  case lst => obtain ⟨a, vs, rfl, _⟩ := r; rfl
  case fz => obtain ⟨a, vs, rfl, _⟩ := r; rfl
  case ref => obtain ⟨rfl, _⟩ := r; rfl
  case con => subst r; rfl
theorem g_is : Op2 w (fun x y H Q => y = .non ∧ Q (.bl (decide (x = .non))) H) pIs := by
  intro c h H x y z v u Q R rx ry e G
  unfold pIs at e
  split at e
  · cases e
    exact ⟨rp_non ry, by rw [non_iff rx]; exact G.bl R⟩
  · cases e
theorem g_isNot : Op2 w (fun x y H Q => y = .non ∧ Q (.bl (!decide (x = .non))) H) pIsNot := by
  intro c h H x y z v u Q R rx ry e G
  unfold pIsNot at e
  split at e
  · cases e
    exact ⟨rp_non ry, by rw [non_iff rx]; exact G.bl R⟩
  · cases e
/-! ### == -/
mutual
theorem pdI_ok {c : Cf} {h : AH} {H : Hp} (R : Rel w c h H) : ∀ {d : D} {v : V} {p : PyData}, Rep w c d v → pdI d = some p → Dp w.K H v p
  | .non, v, p, r, e => by simp only [Rep] at r; simp only [pdI, Option.some.injEq] at e; subst r e; exact .non
  | .bl b, v, p, r, e => by simp only [Rep] at r; simp only [pdI, Option.some.injEq] at e; subst r e; exact .bl b
  | .int b, v, p, r, e => by simp only [Rep] at r; simp only [pdI, Option.some.injEq] at e; subst r e; exact .int b
  | .str b, v, p, r, e => by simp only [Rep] at r; simp only [pdI, Option.some.injEq] at e; subst r e; exact .str b
  | .tup ds, v, p, r, e => by
    simp only [Rep] at r
    obtain ⟨a, vs, rfl, t, rl⟩ := r
    simp only [pdI] at e
    split at e
    · rename_i l q
      cases e
      exact .tup (t.sq R.sub) (pdL_ok R rl q)
    · cases e
  | .lst ds, v, p, r, e => by
    simp only [Rep] at r
    obtain ⟨a, vs, rfl, t, rl⟩ := r
    simp only [pdI] at e
    split at e
    · rename_i l q
      cases e
      exact .lst (t.sq R.sub) (pdL_ok R rl q)
    · cases e
  | .fz ds, v, p, r, e => by
    simp only [Rep] at r
    obtain ⟨a, vs, rfl, t, rl⟩ := r
    simp only [pdI] at e
    split at e
    · rename_i l q
      cases e
      exact .lst (t.sq R.sub) (pdL_ok R rl q)
    · cases e
  | .ref _, _, _, _, e => by simp [pdI] at e
  | .con _, _, _, _, e => by simp [pdI] at e
theorem pdL_ok {c : Cf} {h : AH} {H : Hp} (R : Rel w c h H) : ∀ {ds : List D} {vs : List V} {ps : List PyData}, RepL w c ds vs → pdL ds = some ps → DpAll w.K H vs ps
  | [], vs, ps, r, e => by
    simp only [RepL] at r
    simp only [pdL, Option.some.injEq] at e
    subst r e
    exact .nil
  | d :: ds, vs, ps, r, e => by
    simp only [RepL] at r
    obtain ⟨y, ys, rfl, r1, r2⟩ := r
    simp only [pdL] at e
    split at e
    · rename_i x xs q1 q2
      cases e
      exact .cons (pdI_ok R r1 q1) (pdL_ok R r2 q2)
    · cases e
end
theorem pd_ok {c : Cf} {h : AH} {H : Hp} (R : Rel w c h H) {d : D} {v : V} {p : PyData} (r : Rep w c d v) (e : pd h d = some p) : Dp w.K H v p := by
  cases d with
  | ref k =>
    simp only [pd] at e
    split at e
    · rename_i xs q
      split at e
      · rename_i l q2
        cases e
        obtain ⟨a, vs, rfl, sq, rl⟩ := seqL_ok R r (xs := xs) (by simp [seqL, q])
        exact .lst sq (pdL_ok R rl q2)
      · cases e
    · cases e
  | _ => exact pdI_ok R r e
abbrev rEqA (K : PySem.W.Frag) : L2.R2 := fun x y H Q => rEq x y H Q ∨ rEqD K x y H Q
abbrev rNeA (K : PySem.W.Frag) : L2.R2 := fun x y H Q => rNe x y H Q ∨ rNeD K x y H Q
theorem o_eq {X : Cx} {k : Nat} (hr : Rm k X.A) : OpR X (compareOp .Eq) (rEqA X.K) := op_eq.or (op_eqD hr.r.units)
theorem o_ne {X : Cx} {k : Nat} (hr : Rm k X.A) : OpR X (compareOp .NotEq) (rNeA X.K) := op_ne.or (op_neD hr.r.units)
theorem sEq_ok {c : Cf} {x y : D} {v u : V} {b : Bool} (rx : Rep w c x v) (ry : Rep w c y u) (e : sEq x y = some b) : scal v u = true ∧ decide (v = u) = b := by
  cases x <;> cases y <;> simp only [sEq, Option.some.injEq] at e <;> (first | (cases e; done) | skip) <;> simp only [Rep] at rx ry <;> subst rx ry <;> subst e <;> (first | exact ⟨rfl, rfl⟩ | exact ⟨rfl, dec_int⟩ | exact ⟨rfl, dec_bl⟩ | skip)
  case str.str i j =>
    refine ⟨rfl, ?_⟩
    by_cases q : i = j
    · subst q; simp
    · simp [q]
theorem g_eq : Op2 w (rEqA w.K) pEq := by
  intro c h H x y z v u Q R rx ry e G
  unfold pEq pEqB at e
  cases q : sEq x y with
  | some b =>
    rw [q] at e
    cases e
    obtain ⟨h1, h2⟩ := sEq_ok rx ry q
    exact .inl ⟨h1, by rw [h2]; exact G.bl R⟩
  | none =>
    rw [q] at e
    dsimp only at e
    cases q1 : pd h x with
    | none => rw [q1] at e; cases e
    | some a =>
      cases q2 : pd h y with
      | none => rw [q1, q2] at e; cases e
      | some b =>
        rw [q1, q2] at e
        dsimp only at e
        by_cases hs : SeqAt.shaped a = true ∧ SeqAt.shaped b = true
        · rw [if_pos hs] at e
          cases e
          exact .inr ⟨a, b, pd_ok R rx q1, pd_ok R ry q2, hs.1, hs.2, G.bl R⟩
        · rw [if_neg hs] at e
          cases e
theorem g_ne : Op2 w (rNeA w.K) pNe := by
  intro c h H x y z v u Q R rx ry e G
  unfold pNe pEqB at e
  cases q : sEq x y with
  | some b =>
    rw [q] at e
    cases e
    obtain ⟨h1, h2⟩ := sEq_ok rx ry q
    exact .inl ⟨h1, by rw [h2]; exact G.bl R⟩
  | none =>
    rw [q] at e
    dsimp only at e
    cases q1 : pd h x with
    | none => rw [q1] at e; cases e
    | some a =>
      cases q2 : pd h y with
      | none => rw [q1, q2] at e; cases e
      | some b =>
        rw [q1, q2] at e
        dsimp only at e
        by_cases hs : SeqAt.shaped a = true ∧ SeqAt.shaped b = true
        · rw [if_pos hs] at e
          cases e
          exact .inr ⟨a, b, pd_ok R rx q1, pd_ok R ry q2, hs.1, hs.2, G.bl R⟩
        · rw [if_neg hs] at e
          cases e
/-! ### items -/
theorem atI_rep {c : Cf} {xs : List D} {vs : List V} {i : Int} {d : D} (r : RepL w c xs vs) (e : atI xs i = some d) : ∃ v, atI vs i = some v ∧ Rep w c d v := by
  unfold atI at e ⊢
  rw [← r.len]
  cases q : ixN xs.length i with
  | none => rw [q] at e; cases e
  | some j =>
    rw [q] at e
    exact r.get e
theorem g_ix : Op2 w (rIx w.K) pIx := by
  intro c h H x y z v u Q R rx ry e G
  unfold pIx at e
  split at e
  · rename_i i
    have hu := rp_int ry
    subst hu
    split at e
    · obtain ⟨a, vs, rfl, sq, rl⟩ := seqT_ok R rx rfl
      obtain ⟨v, e2, rv⟩ := atI_rep rl e
      exact .inr (.inl ⟨a, vs, i, v, rfl, rfl, sq, e2, G.same R rv⟩)
    · rename_i zz
      split at e
      · rename_i hl
        have hv := rp_str rx
        subst hv
        cases q : atI zz.cps.toList i with
        | none => rw [q] at e; cases e
        | some cc =>
          rw [q] at e
          cases e
          exact .inr (.inr ⟨zz, i, cc, rfl, rfl, size5 hl, q, G.str R⟩)
      · cases e
    · split at e
      · rename_i xs q
        obtain ⟨a, vs, rfl, sq, rl⟩ := seqL_ok R rx q
        obtain ⟨v, e2, rv⟩ := atI_rep rl e
        exact .inl ⟨a, vs, i, v, rfl, rfl, sq, e2, G.same R rv⟩
      · cases e
  · cases e
end
section
variable {X : Cx} {T : Nat → Addr} {W : WX} {a b e : Expr} {es : List Expr} {ma mb : ME} {ms : MA} {pos p : Pos}
theorem r_ix (ha : PE X a (tM (Wd.mk X.K T) W ma)) (hb : PE X b (tM (Wd.mk X.K T) W mb)) (hs : PlainIx b := by intro _ _; rfl) : PE X (.Subscript a b pos) (tM (Wd.mk X.K T) W (eBin pIx ma mb)) :=
  PEi (pe_ix ix_seq ha hb hs) fun σ H Q z => two (f := fun _ x y h2 => optR (pIx h2 x y) h2) z fun c2 s h2 H2 x y v u R2 S2 r1 r2 o => by
    obtain ⟨d, e, G⟩ := optOut o
    exact g_ix c2 h2 H2 x y d v u Q R2 r1 r2 e G
/-! ### built-in functions -/
theorem r_fn {id : String} {x : Str} {r : List V → Hp → VK → Prop} {g : AH → List D → Option D} (hc : CallR X (.builtin id) r) (hr : OpN (Wd.mk X.K T) r g) (hm : X.mg x = none) (hv : bootBuiltins x = some (.builtin id)) (ha : PA X (e :: es) (tA (Wd.mk X.K T) W ms))
    (hg : Gl X x := by rfl) (hn : x ≠ "__name__" := by decide) (hdb : (x == ("__debug__" : Str)) = false := by decide)
    (he : starEach (e :: es) X.env = (false, eval e X.env) :: starEach es X.env := by rfl) (hpl : (backTo pos (starEach es X.env)).any (·.1) = false := by rfl) : PE X (.Call (.Name x p) (e :: es) [] pos) (tM (Wd.mk X.K T) W (eFn g ms)) :=
  PEi (pe_callB hc hg hm hv ha hn hdb he hpl) fun σ H Q z => oneA (f := fun _ xs h1 => optR (g h1 xs) h1) z fun c2 s h2 H2 x v R2 S2 r1 o => by
    obtain ⟨d, e, G⟩ := optOut o
    exact hr c2 h2 H2 x d v Q R2 r1 e G
theorem r_ty {id : String} {x : Str} {r : List V → Hp → VK → Prop} {g : AH → List D → Option D} (hc : CallR X (.type id) r) (hr : OpN (Wd.mk X.K T) r g) (hm : X.mg x = none) (hv : bootBuiltins x = some (.type id)) (ha : PA X (e :: es) (tA (Wd.mk X.K T) W ms))
    (hg : Gl X x := by rfl) (hn : x ≠ "__name__" := by decide) (hdb : (x == ("__debug__" : Str)) = false := by decide)
    (he : starEach (e :: es) X.env = (false, eval e X.env) :: starEach es X.env := by rfl) (hpl : (backTo pos (starEach es X.env)).any (·.1) = false := by rfl) : PE X (.Call (.Name x p) (e :: es) [] pos) (tM (Wd.mk X.K T) W (eFn g ms)) :=
  PEi (pe_callTy hc hg hm hv ha hn hdb he hpl) fun σ H Q z => oneA (f := fun _ xs h1 => optR (g h1 xs) h1) z fun c2 s h2 H2 x v R2 S2 r1 o => by
    obtain ⟨d, e, G⟩ := optOut o
    exact hr c2 h2 H2 x d v Q R2 r1 e G
end
def fAbs (_ : AH) : List D → Option D
  | [.int i] => some (.int (if i < 0 then -i else i))
  | _ => none
def fMax2 (_ : AH) : List D → Option D
  | [.int i, .int j] => some (.int (if j > i then j else i))
  | _ => none
def fMin2 (_ : AH) : List D → Option D
  | [.int i, .int j] => some (.int (if j < i then j else i))
  | _ => none
def fInt (_ : AH) : List D → Option D
  | [.int i] => some (.int i)
  | [.bl k] => some (.int (if k then 1 else 0))
  | _ => none
def fLen (h : AH) : List D → Option D
  | [x] => match seqX h x with
    | some xs => some (.int xs.length)
    | none => match x with
      | .str z => if z.length ≤ 100000 then some (.int z.length) else none
      | _ => none
  | _ => none
section
variable {w : Wd}
theorem rpl0 {c : Cf} {vs : List V} (r : RepL w c [] vs) : vs = [] := by simpa [RepL] using r
theorem rpl1 {c : Cf} {d : D} {vs : List V} (r : RepL w c [d] vs) : ∃ v, vs = [v] ∧ Rep w c d v := by
  simp only [RepL] at r
  obtain ⟨x, xs, rfl, r1, rfl⟩ := r
  exact ⟨x, rfl, r1⟩
theorem rpl2 {c : Cf} {d e : D} {vs : List V} (r : RepL w c [d, e] vs) : ∃ v u, vs = [v, u] ∧ Rep w c d v ∧ Rep w c e u := by
  simp only [RepL] at r
  obtain ⟨x, xs, rfl, r1, y, ys, rfl, r2, rfl⟩ := r
  exact ⟨x, y, rfl, r1, r2⟩
theorem n_abs : OpN w (fun xs H Q => ∃ i, xs = [.int i] ∧ Q (.int (if i < 0 then -i else i)) H) fAbs := by
  intro c h H xs z vs Q R r e G
  unfold fAbs at e
  split at e
  · cases e
    obtain ⟨v, rfl, rv⟩ := rpl1 r
    exact ⟨_, by rw [rp_int rv], G.int R⟩
  · cases e
theorem n_max2 : OpN w (fun xs H Q => ∃ i j, xs = [.int i, .int j] ∧ Q (.int (if j > i then j else i)) H) fMax2 := by
  intro c h H xs z vs Q R r e G
  unfold fMax2 at e
  split at e
  · cases e
    obtain ⟨v, u, rfl, rv, ru⟩ := rpl2 r
    exact ⟨_, _, by rw [rp_int rv, rp_int ru], G.int R⟩
  · cases e
theorem n_min2 : OpN w (fun xs H Q => ∃ i j, xs = [.int i, .int j] ∧ Q (.int (if j < i then j else i)) H) fMin2 := by
  intro c h H xs z vs Q R r e G
  unfold fMin2 at e
  split at e
  · cases e
    obtain ⟨v, u, rfl, rv, ru⟩ := rpl2 r
    exact ⟨_, _, by rw [rp_int rv, rp_int ru], G.int R⟩
  · cases e
theorem n_int : OpN w (fun xs H Q => (∃ i, xs = [.int i] ∧ Q (.int i) H) ∨ ∃ k, xs = [.bl k] ∧ Q (.int (if k then 1 else 0)) H) fInt := by
  intro c h H xs z vs Q R r e G
  unfold fInt at e
  split at e
  · cases e
    obtain ⟨v, rfl, rv⟩ := rpl1 r
    exact .inl ⟨_, by rw [rp_int rv], G.int R⟩
  · cases e
    obtain ⟨v, rfl, rv⟩ := rpl1 r
    exact .inr ⟨_, by rw [rp_bl rv], G.int R⟩
  · cases e
abbrev rLenA (K : PySem.W.Frag) : List V → Hp → VK → Prop := fun xs H Q => (∃ p ys, xs = [.ref p] ∧ (SqL K H p ys ∨ SqT K H p ys) ∧ Q (.int ys.length) H) ∨ ∃ z, xs = [.str z] ∧ z.length ≤ sizeLine ∧ Q (.int z.length) H
theorem c_len {X : Cx} : CallR X (.builtin "len") (rLenA X.K) := call_len_seq.or call_len_str
theorem n_len : OpN w (rLenA w.K) fLen := by
  intro c h H xs z vs Q R r e G
  unfold fLen at e
  split at e
  · obtain ⟨v, rfl, rv⟩ := rpl1 r
    split at e
    · rename_i ys q
      cases e
      unfold seqX at q
      split at q
      · rename_i zs q2
        cases q
        obtain ⟨a, us, rfl, t, rl⟩ := seqT_ok R rv q2
        exact .inl ⟨a, us, rfl, .inr t, by rw [← rl.len]; exact G.int R⟩
      · obtain ⟨a, us, rfl, t, rl⟩ := seqL_ok R rv q
        exact .inl ⟨a, us, rfl, .inl t, by rw [← rl.len]; exact G.int R⟩
    · split at e
      · split at e
        · rename_i hl
          cases e
          exact .inr ⟨_, by rw [rp_str rv], size5 hl, G.int R⟩
        · cases e
      · cases e
  · cases e
end

/-! ### repr -/
/-- a text by the data: what repr tells -/
def fRepr (h : AH) : List D → Option D
  | [x] => match pd h x with
    | some p => if p.showable = true ∧ p.hasDict = false ∧ p.shown.length ≤ 100000 ∧ p.depth ≤ 20 then some (.str p.shown) else none
    | none => none
  | _ => none
theorem depth_le {p : PyData} : p.depth ≤ 20 → p.depth + 1 ≤ 21 := fun h => by omega
def rRepr (K : PySem.W.Frag) : List V → Hp → VK → Prop := fun xs H Q => ∃ v p, xs = [v] ∧ Dp K H v p ∧ p.showable = true ∧ p.hasDict = false ∧ p.shown.length ≤ sizeLine ∧ p.depth ≤ 20 ∧ Q (.str p.shown) H
theorem c_repr {X : Cx} {k : Nat} (hr : Rm k X.A) : CallR X (.builtin "repr") (rRepr X.K) := by
  intro pins s σ H xs us Q I r h
  obtain ⟨v, p, rfl, hd, hs, hn, hz, hdep, q⟩ := h
  obtain ⟨u, rfl, ru⟩ := vals1 r
  obtain ⟨as, rd⟩ := Dp.reads I p v u hd ru
  have hu := hr.r.units
  cases hd with
  | non =>
    cases (show u = Value.none from ru)
    exact PySem.P.repr_of_none ⟨.str _, H, I.tok _, ⟨_, rfl⟩, q⟩
  | bl b =>
    cases (show u = Value.bool b from ru)
    exact PySem.P.repr_of_bool ⟨.str _, H, I.tok _, ⟨_, rfl⟩, q⟩
  | int i =>
    obtain ⟨t, rfl⟩ := (show ∃ t, u = Value.int i t from ru)
    exact PySem.P.repr_of_int (by simpa [PyData.showable] using hs) ⟨.str _, H, I.tok _, ⟨_, rfl⟩, q⟩
  | str x =>
    obtain ⟨t, rfl⟩ := (show ∃ t, u = Value.str x t from ru)
    exact PySem.P.repr_of_str ⟨.str _, H, I.tok _, ⟨_, rfl⟩, q⟩ hz
  | lst sq al =>
    cases ru
    exact repr_of_reads' rd hs (fun z => by rw [hn] at z; cases z) hr.g (by omega) (fun _ _ e => e) (fun h' u tk hk => ⟨.str _, H, I.kept hk, ⟨_, rfl⟩, q⟩) hz
  | tup sq al =>
    cases ru
    exact repr_of_reads' rd hs (fun z => by rw [hn] at z; cases z) hr.g (by omega) (fun _ _ e => e) (fun h' u tk hk => ⟨.str _, H, I.kept hk, ⟨_, rfl⟩, q⟩) hz
theorem n_repr {w : Wd} : OpN w (rRepr w.K) fRepr := by
  intro c h H xs z vs Q R r e G
  unfold fRepr at e
  split at e
  · split at e
    · rename_i p q
      split at e
      · rename_i hc
        cases e
        obtain ⟨v, rfl, rv⟩ := rpl1 r
        exact ⟨v, p, rfl, pd_ok R rv q, hc.1, hc.2.1, size5 hc.2.2.1, hc.2.2.2, G.str R⟩
      · cases e
    · cases e
  · cases e

/-! ### isinstance of a built-in type -/
def tyName (h : AH) : D → Option String
  | .non => some "NoneType"
  | .bl _ => some "bool"
  | .int _ => some "int"
  | .str _ => some "str"
  | .tup _ => some "tuple"
  | .lst _ => some "list"
  | .ref k => match h.g k with
    | some (.lst _) => some "list"
    | some (.dct _) => some "dict"
    | _ => none
  | _ => none
def isiB (t T : String) : Bool := t == T || (t == "bool" && T == "int")
def eIsi (T : String) (a : ME) : ME := fun s h => (a s h).bind fun d h1 => match tyName h1 d with
  | some t => .ok (.bl (isiB t T)) h1
  | none => .st
/-- a built-in type of which we know the answers -/
def IsiOk (T : String) : Prop := ∀ t, t ∈ ["NoneType", "bool", "int", "str", "tuple", "list", "dict"] → kitB t T = some (isiB t T)
theorem isiOk {T : String} (h : (["NoneType", "bool", "int", "str", "tuple", "list", "dict"].all fun t => kitB t T == some (isiB t T)) = true) : IsiOk T := fun t ht => by
  have := List.all_eq_true.mp h t ht
  simpa using this
theorem ii_int : IsiOk "int" := isiOk (by decide +kernel)
theorem ii_bool : IsiOk "bool" := isiOk (by decide +kernel)
theorem ii_str : IsiOk "str" := isiOk (by decide +kernel)
theorem ii_tuple : IsiOk "tuple" := isiOk (by decide +kernel)
theorem ii_list : IsiOk "list" := isiOk (by decide +kernel)
theorem ii_dict : IsiOk "dict" := isiOk (by decide +kernel)
theorem ty_ok {w : Wd} {c : Cf} {h : AH} {H : Hp} (R : Rel w c h H) {d : D} {v : V} {t : String} (r : Rep w c d v) (e : tyName h d = some t) : TyX w.K H v (.type t) ∧ t ∈ ["NoneType", "bool", "int", "str", "tuple", "list", "dict"] := by
  cases d with
  | non => cases e; rw [rp_non r]; exact ⟨.base .non, by decide⟩
  | bl b => cases e; rw [rp_bl r]; exact ⟨.base (.bl b), by decide⟩
  | int b => cases e; rw [rp_int r]; exact ⟨.base (.int b), by decide⟩
  | str b => cases e; rw [rp_str r]; exact ⟨.base (.str b), by decide⟩
  | tup xs =>
    cases e
    simp only [Rep] at r
    obtain ⟨a, vs, rfl, t, _⟩ := r
    rcases t with ⟨(t | ⟨o, t⟩), _⟩ | ((t | ⟨o, t⟩) | ⟨o, its, n, lk, cl, _⟩)
    · exact ⟨.base (.tup (R.sub _ _ t)), by decide⟩
    · exact ⟨.fTuple (R.sub _ _ t), by decide⟩
    · cases t
    · cases t
    · exact ⟨.kTuple lk cl, by decide⟩
  | lst xs =>
    cases e
    simp only [Rep] at r
    obtain ⟨a, vs, rfl, t, _⟩ := r
    exact ⟨.base (.lst (R.sub _ _ t.1)), by decide⟩
  | ref k =>
    simp only [tyName] at e
    simp only [Rep] at r
    obtain ⟨rfl, hk⟩ := r
    split at e
    · rename_i xs q
      cases e
      obtain ⟨u, e1, vs, rfl, _⟩ := R.at_ _ _ q
      exact ⟨.base (.lst (R.sub _ _ e1)), by decide⟩
    · rename_i xs q
      cases e
      obtain ⟨u, e1, vs, rfl, _⟩ := R.at_ _ _ q
      exact ⟨.base (.dK (R.sub _ _ e1)), by decide⟩
    · cases e
  | fz _ => cases e
  | con _ => cases e
section
variable {X : Cx} {T : Nat → Addr} {W : WX} {a b e o i : Expr} {es : List Expr} {ma mb mo mi : ME} {ms : MA} {pos p p2 : Pos}
theorem r_isi {N : Str} {S : String} (hS : IsiOk S) (hm : X.mg "isinstance" = none) (hmN : X.mg N = none) (hvN : bootBuiltins N = some (.type S)) (ha : PE X a (tM (Wd.mk X.K T) W ma)) (hg : Gl X "isinstance" := by rfl) (hgN : Gl X N := by rfl) (hn : N ≠ "__name__" := by decide) (hdb : (N == ("__debug__" : Str)) = false := by decide)
    (h1 : starEach [a, .Name N p2] X.env = (false, eval a X.env) :: starEach [.Name N p2] X.env := by rfl) (h2 : starEach [.Name N p2] X.env = (false, eval (.Name N p2) X.env) :: starEach [] X.env := by rfl)
    (hpl : (backTo pos (starEach [.Name N p2] X.env)).any (·.1) = false := by rfl) :
    PE X (.Call (.Name "isinstance" p) [a, .Name N p2] [] pos) (tM (Wd.mk X.K T) W (eIsi S ma)) :=
  PEi (pe_callB call_isi hg hm (by decide +kernel) (pa_cons ha (pa_cons (pe_bltn (v := .ty S) hgN hmN hvN rfl hn hdb) pa_nil h2) h1) (by decide) (by decide) h1 hpl) fun σ H Q z =>
    one (f := fun _ d h1 => match tyName h1 d with | some t => .ok (.bl (isiB t S)) h1 | none => .st) z fun c2 s h2 H2 x v R2 S2 r1 o => by
      split at o
      · rename_i t et
        obtain ⟨ty, hm⟩ := ty_ok R2 r1 et
        exact ⟨v, .ty S, _, _, isiB t S, rfl, .ty S, ty, kit_ty (hS t hm), o c2 _ H2 R2 (.refl R2.sub) (by simp [Rep])⟩
      · exact o.elim

/-! ### xs[i] = v -/
def setIx (o i v : D) (h : AH) : Option AH := match o, i with
  | .ref k, .int j => match h.g k with
    | some (.lst xs) => match ixN xs.length j with
      | some n => some (h.put k (.lst (xs.set n v)))
      | none => none
    | _ => none
  | _, _ => none
def gIx (o i : ME) : MG := fun v s h => match o s h with
  | .ok x h1 => match i s h1 with
    | .ok y h2 => match setIx x y v h2 with
      | some h3 => some (s, h3)
      | none => none
    | _ => none
  | _ => none
theorem setIx_ok {w : Wd} {c : Cf} {h h3 : AH} {H : Hp} (R : Rel w c h H) {o i d : D} {vo vi v : V} {Q : Hp → Prop} (ro : Rep w c o vo) (ri : Rep w c i vi) (rd : Rep w c d v) (e : setIx o i d h = some h3)
    (q : ∀ c' H', Rel w c' h3 H' → Ext c H c' H' → Q H') : rSetL vo vi v H Q := by
  unfold setIx at e
  split at e
  · rename_i k j
    split at e
    · rename_i xs q1
      split at e
      · rename_i n q2
        cases e
        simp only [Rep] at ro
        obtain ⟨rfl, hk⟩ := ro
        obtain ⟨u, e1, vs, rfl, rl⟩ := R.at_ _ _ q1
        obtain ⟨R', E'⟩ := R.put q1 e1 (o' := .lst (xs.set n d)) (u' := .lst (vs.set n v)) ⟨_, rfl, rl.set rd⟩
        exact ⟨_, vs, j, n, rfl, rp_int ri, R.sub _ _ e1, by rw [← rl.len]; exact q2, q _ _ R' E'⟩
      · cases e
    · cases e
  · cases e
theorem g_ixs (ho : PE X o (tM (Wd.mk X.K T) (fun _ _ _ _ => False) mo)) (hi : PE X i (tM (Wd.mk X.K T) (fun _ _ _ _ => False) mi)) (ha : ∀ v, assign (.Subscript o i pos) X.env v = (do
      let ov ← holding [v] (eval o X.env)
      let iv ← holding [v, ov] (eval i X.env)
      standAt pos
      holding [v, ov, iv] (setItem ov iv v)
      release [v, ov, iv] []) := by intro _; rfl) : PG X (.Subscript o i pos) (tG (Wd.mk X.K T) (gIx mo mi)) :=
  ⟨fun pins s σ H v u Q I r z => (pg_sub ho hi set_list ha).run pins s σ H v u Q I r (by
    obtain ⟨c, sl, h, d, R, S, r1, o1⟩ := z
    simp only [gIx] at o1
    refine ⟨c, sl, h, R, S, ?_⟩
    cases q : mo sl h with
    | ok x h1 =>
      rw [q] at o1
      intro c1 vo H1 R1 E1 ro
      refine ⟨c1, sl, h1, R1, S.ext E1, ?_⟩
      dsimp only at o1
      cases q2 : mi sl h1 with
      | ok y h2 =>
        rw [q2] at o1
        intro c2 vi H2 R2 E2 ri
        dsimp only at o1
        cases q3 : setIx x y d h2 with
        | none => rw [q3] at o1; exact o1.elim
        | some h3 =>
          rw [q3] at o1
          have E12 := E1.trans E2
          exact setIx_ok R2 (ro.ext E2) ri ((r1.ext E1).ext E2) q3 fun c3 H3 R3 E3 => o1 c3 σ H3 R3 (E12.trans E3) ((S.ext E12).ext E3)
      | ex e h' => rw [q2] at o1; exact o1.elim
      | st => rw [q2] at o1; exact o1.elim
    | ex e h' => rw [q] at o1; exact o1.elim
    | st => rw [q] at o1; exact o1.elim)⟩

/-! ### methods of built-in objects -/
/-- what a method does: its value, the heap behind it -/
abbrev PM := AH → D → List D → Option (D × AH)
def eBm (T : String) (g : PM) (o : ME) (a : MA) : ME := fun s h => (o s h).bind fun x h1 => if tyName h1 x = some T then (a s h1).bind fun xs h2 => match g h2 x xs with
    | some (z, h3) => .ok z h3
    | none => .st
  else .st
def OpM (w : Wd) (r : V → List V → Hp → VK → Prop) (g : PM) : Prop := ∀ c h H x xs z h' v vs Q, Rel w c h H → Rep w c x v → RepL w c xs vs → g h x xs = some (z, h') →
  (∀ c' v' H', Rel w c' h' H' → Ext c H c' H' → Rep w c' z v' → Q v' H') → r v vs H Q
def BmOk (T : String) : Prop := T = "str" ∨ T = "list" ∨ T = "dict"
theorem tyV_ok {w : Wd} {c : Cf} {h : AH} {H : Hp} (R : Rel w c h H) {d : D} {v : V} {t : String} (r : Rep w c d v) (e : tyName h d = some t) (ht : BmOk t) : tyV w.K t v H := by
  cases d with
  | non => cases e; exact absurd ht (by unfold BmOk; decide)
  | bl b => cases e; exact absurd ht (by unfold BmOk; decide)
  | int b => cases e; exact absurd ht (by unfold BmOk; decide)
  | str b => cases e; rw [rp_str r]; exact rfl
  | tup xs => cases e; exact absurd ht (by unfold BmOk; decide)
  | lst xs =>
    cases e
    obtain ⟨a, vs, rfl, sq, _⟩ := seqL_ok R r rfl
    exact .inl ⟨rfl, vs, sq⟩
  | ref k =>
    simp only [tyName] at e
    simp only [Rep] at r
    obtain ⟨rfl, hk⟩ := r
    split at e
    · rename_i xs q
      cases e
      obtain ⟨u, e1, vs, rfl, _⟩ := R.at_ _ _ q
      exact .inl ⟨rfl, vs, .of (R.sub _ _ e1)⟩
    · rename_i xs q
      cases e
      obtain ⟨u, e1, vs, rfl, _⟩ := R.at_ _ _ q
      exact .inr (.inr (.inl ⟨rfl, .inl ⟨vs, R.sub _ _ e1⟩⟩))
    · cases e
  | fz _ => cases e
  | con _ => cases e
theorem bm_aux {S : String} {r : V → List V → Hp → VK → Prop} {g : PM} (hS : BmOk S) (hg : OpM (Wd.mk X.K T) r g) {σ : L2.St} {H : Hp} {Q : VK} (z : tM (Wd.mk X.K T) W (eBm S g mo ms) σ H Q) : tBM X.K S r (tM (Wd.mk X.K T) W mo) (tA (Wd.mk X.K T) W ms) σ H Q := by
  obtain ⟨c, s, h, R, Sl, o⟩ := z
  refine ⟨c, s, h, R, Sl, (Out.bind (A := Rep (Wd.mk X.K T)) o).mono ?_⟩
  rintro v H1 ⟨c1, h1, x, R1, E1, r1, o1⟩
  split at o1
  · rename_i ht
    refine ⟨tyV_ok R1 r1 ht hS, c1, s, h1, R1, Sl.ext E1, (Out.bind (A := RepL (Wd.mk X.K T)) o1).mono ?_⟩
    rintro vs H2 ⟨c2, h2, xs, R2, E2, r2, o2⟩
    split at o2
    · rename_i zz h3 e
      exact hg c2 h2 H2 x xs zz h3 v vs Q R2 (r1.ext E2) r2 e o2
    · exact o2.elim
  · exact o1.elim
theorem r_bm {S id : String} {name : Str} {apos : Pos} {r : V → List V → Hp → VK → Prop} {g : PM} (pa : PlainAttrs S) (slot : Slot S name id) (hty : typeOf (.builtin id) = pure (.type "method_descriptor")) (hm : MtR X id r) (hS : BmOk S) (hg : OpM (Wd.mk X.K T) r g) (ho : PE X o (tM (Wd.mk X.K T) W mo)) (ha : PA X (e :: es) (tA (Wd.mk X.K T) W ms))
    (hbase : attributeBase o name X.env (eval o X.env) = eval o X.env := by rfl)
    (hfew : ((backTo pos (starEach (e :: es) X.env)).all (fun x => !x.1) && (backToKw pos (keywordEach [] X.env)).all (fun x => x.1.isSome)
      && decide ((e :: es).length + ([] : List Keyword).length + (if ([] : List Keyword).isEmpty then 0 else 1) < 30)) = true := by rfl)
    (hline : (apos.endLine == pos.line) = true := by rfl) (hs : starEach (e :: es) X.env = (false, eval e X.env) :: starEach es X.env := by rfl) (hplain : (backTo pos (starEach es X.env)).any (·.1) = false := by rfl) :
    PE X (.Call (.Attribute o name apos) (e :: es) [] pos) (tM (Wd.mk X.K T) W (eBm S g mo ms)) :=
  PEi (pe_bm pa slot hty hm ho ha hbase hfew hline hs hplain) fun σ H Q z => bm_aux hS hg z
theorem r_bm0 {S id : String} {name : Str} {apos : Pos} {r : V → List V → Hp → VK → Prop} {g : PM} (pa : PlainAttrs S) (slot : Slot S name id) (hty : typeOf (.builtin id) = pure (.type "method_descriptor")) (hm : MtR X id r) (hS : BmOk S) (hg : OpM (Wd.mk X.K T) r g) (ho : PE X o (tM (Wd.mk X.K T) W mo))
    (hbase : attributeBase o name X.env (eval o X.env) = eval o X.env := by rfl) (hline : (apos.endLine == pos.line) = true := by rfl) :
    PE X (.Call (.Attribute o name apos) [] [] pos) (tM (Wd.mk X.K T) W (eBm S g mo aNil)) :=
  PEi (pe_bm0 pa slot hty hm ho hbase hline) fun σ H Q z => by
    obtain ⟨c, s, h, R, Sl, o⟩ := z
    refine ⟨c, s, h, R, Sl, (Out.bind (A := Rep (Wd.mk X.K T)) o).mono ?_⟩
    rintro v H1 ⟨c1, h1, x, R1, E1, r1, o1⟩
    split at o1
    · rename_i ht
      refine ⟨tyV_ok R1 r1 ht hS, ?_⟩
      simp only [aNil, Res.bind] at o1
      split at o1
      · rename_i zz h3 e
        exact hg c1 h1 H1 x [] zz h3 v [] Q R1 r1 .nil e o1
      · exact o1.elim
    · exact o1.elim
end
def mAppend : PM := fun h x xs => match x, xs with
  | .ref k, [y] => match h.g k with
    | some (.lst ds) => if ds.length < 100000 then some (.non, h.put k (.lst (ds ++ [y]))) else none
    | _ => none
  | _, _ => none
theorem m_append {w : Wd} : OpM w rAppend mAppend := by
  intro c h H x xs z h' v vs Q R rx rs e q
  unfold mAppend at e
  split at e
  · rename_i k y
    split at e
    · rename_i ds e1
      split at e
      · rename_i hl
        cases e
        obtain ⟨u, rfl, ru⟩ := rpl1 rs
        simp only [Rep] at rx
        obtain ⟨rfl, hk⟩ := rx
        obtain ⟨o, e2, us, rfl, rl⟩ := R.at_ _ _ e1
        obtain ⟨R', E'⟩ := R.put e1 e2 (o' := .lst (ds ++ [y])) (u' := .lst (us ++ [u])) ⟨_, rfl, rl.append (.cons ru .nil)⟩
        exact ⟨_, us, u, rfl, rfl, R.sub _ _ e2, Nat.lt_of_lt_of_le (by rw [← rl.len]; exact hl) (size5 (Nat.le_refl _)), q _ _ _ R' E' (by simp [Rep])⟩
      · cases e
    · cases e
  · cases e
end MP
set_option Elab.async false
set_option linter.all false
set_option maxRecDepth 100000
set_option maxHeartbeats 4000000
/-! mirrors: the law's call -/
namespace MP
open PySem PySem.Spec L2
open PyProof.Rows hiding St

section
variable {X : Cx} {T : Nat → Addr} {W : WX} {e : Expr} {kws : List Keyword} {ma : ME} {ms : MA} {kpos : Pos} {nm : Option Str}
theorem k_nil : PK X [] (tA (Wd.mk X.K T) W aNil) := PKi pk_nil fun σ H Q ⟨c, s, h, R, S, o⟩ => o c [] H R (.refl R.sub) .nil
theorem k_cons (ha : PE X e (tM (Wd.mk X.K T) W ma)) (hr : PK X kws (tA (Wd.mk X.K T) W ms)) : PK X (⟨nm, e, kpos⟩ :: kws) (tA (Wd.mk X.K T) W (aCons ma ms)) :=
  PKi (pk_cons ha hr) fun σ H Q z => by
    obtain ⟨c, s, h, R, S, o⟩ := z
    refine ⟨c, s, h, R, S, (Out.bind (A := Rep (Wd.mk X.K T)) o).mono ?_⟩
    rintro v H1 ⟨c1, h1, x, R1, E1, r1, o1⟩
    refine ⟨c1, s, h1, R1, S.ext E1, (Out.bind (A := RepL (Wd.mk X.K T)) o1).mono ?_⟩
    rintro vs H2 ⟨c2, h2, xs, R2, E2, r2, o2⟩
    exact o2 c2 (v :: vs) H2 R2 (.refl R2.sub) (.cons (r1.ext E2) r2)
end
theorem rc_int {w : Wd} (i : Int) (c : Cf) : Rep w c (.int i) (.int i) := by simp [Rep]
theorem rc_str {w : Wd} (i : Str) (c : Cf) : Rep w c (.str i) (.str i) := by simp [Rep]
theorem rc_bl {w : Wd} (i : Bool) (c : Cf) : Rep w c (.bl i) (.bl i) := by simp [Rep]
theorem rc_non {w : Wd} (c : Cf) : Rep w c .non .non := by simp [Rep]
theorem rl0 {w : Wd} (c : Cf) : RepL w c [] [] := .nil
theorem rl_cons {w : Wd} {d : D} {v : V} {ds : List D} {vs : List V} (h : ∀ c, Rep w c d v) (hs : ∀ c, RepL w c ds vs) (c : Cf) : RepL w c (d :: ds) (v :: vs) := .cons (h c) (hs c)
theorem glob_int {X : Cx} {T : Nat → Addr} {W : WX} {x : Str} {i : Int} {pos : Pos} (hm : ∃ t, X.mg x = some (.int i t)) (hg : Gl X x := by rfl) (hd : (x == ("__debug__" : Str)) = false := by decide) : PE X (.Name x pos) (tM ⟨X.K, T⟩ W (eC (.int i))) := by
  obtain ⟨t, hm⟩ := hm
  exact r_glob (v := .int i) hm (rc_int i) ⟨t, rfl⟩ hg hd
theorem glob_str {X : Cx} {T : Nat → Addr} {W : WX} {x i : Str} {pos : Pos} (hm : ∃ t, X.mg x = some (.str i t)) (hg : Gl X x := by rfl) (hd : (x == ("__debug__" : Str)) = false := by decide) : PE X (.Name x pos) (tM ⟨X.K, T⟩ W (eC (.str i))) := by
  obtain ⟨t, hm⟩ := hm
  exact r_glob (v := .str i) hm (rc_str i) ⟨t, rfl⟩ hg hd

/-- the heap of the mirrors ahead of the law: nothing -/
def ah0 : AH := ⟨0, fun _ => none⟩
/-- where the script alone is told of -/
def cf0 (H : Hp) : Cf := ⟨0, fun _ => 0, H⟩
theorem rel0 (w : Wd) (H : Hp) : Rel w (cf0 H) ah0 H :=
  ⟨rfl, fun _ _ => rfl, fun k hk => absurd hk (Nat.not_lt_zero k), fun j k hj => absurd hj (Nat.not_lt_zero j), fun k o e => (nomatch e), fun _ _ e => e⟩
theorem ints_rep {w : Wd} {c : Cf} : ∀ ns : List Int, RepL w c (ns.map D.int) (ns.map V.int)
  | [] => .nil
  | n :: ns => .cons (rc_int n c) (ints_rep ns)
theorem script_rep {w : Wd} {H : Hp} {a : Addr} {ns : List Int} (h : SqL w.K H a (ns.map V.int)) : Rep w (cf0 H) (.fz (ns.map .int)) (.ref a) := by
  simp only [Rep]
  refine ⟨a, _, rfl, ?_, ints_rep ns⟩
  rcases h with h | h
  · exact .inl ⟨h, fun k hk => absurd hk (Nat.not_lt_zero k)⟩
  · exact .inr (.inr h)
/-- the law's mirror is True -/
def LawTrue (m : MF) : Prop := ∀ ns : List Int, ns.length ≤ 63 → ∃ h, m [.fz (ns.map .int)] ah0 = .ok (.bl true) h

theorem run_law {P : Program} {w : World} {K : PySem.W.Frag} {T : Nat → Addr} {mg mb : Str → Option Value} {k : Nat} {fa a : Addr} {fd : FuncData} {x : Str} {m : MF} {s₁ : Shared} {vs : List Value} {ns : List Int}
    (KX : K.In s₁.heap) (hns : s₁.heap.Ns mainGlobals mg) (hb : s₁.heap.Ns builtinsNs mb) (hbb : ∀ x : Str, x ≠ "__name__" → mb x = bootBuiltins x) (hlim : s₁.heap.NoLimit) (hg : s₁.gens = #[])
    (ha : s₁.heap.get? a = some { cls := .type "list", data := .seq vs.toArray }) (hi : IntsAre vs ns) (hl : ns.length ≤ 63) (hr : Rm k callerA)
    (F : ∀ base : Heap, K.In base → base.Ns mainGlobals mg → Fn P w K T mg base k fa fd [x] m) (hbind : ∀ (s : Shared) (u : Value), BindsTo s fd ⟨[u], []⟩ [(x, u)]) (hm : LawTrue m) :
    codeAny (model P w) callerA (.call (.ref fa) ⟨[.ref a], []⟩) (fun r s' => r = .ok (.ret (.bool true)) ∧ OldK s₁.heap s'.heap ∧ s'.os = s₁.os ∧ AllBare s'.gens) s₁ := by
  have rv := vals_ints hi
  have hl2 : ns.length ≤ sizeLine := Nat.le_trans hl (by rw [sizeLine_eq]; decide)
  -- the abstract heap: the script, where it isn't the top's own
  have go : ∀ H : Hp, SqL K H a (ns.map V.int) → HOk P w H s₁.heap → (∀ b, H b ≠ none → b = a ∧ K.lookup a = none ∧ H b = some (.frz { cls := .type "list", data := .seq vs.toArray } (.lst (ns.map V.int)))) →
      codeAny (model P w) callerA (.call (.ref fa) ⟨[.ref a], []⟩) (fun r s' => r = .ok (.ret (.bool true)) ∧ OldK s₁.heap s'.heap ∧ s'.os = s₁.os ∧ AllBare s'.gens) s₁ := by
    intro H hS hok hA
    have off : ∀ b, b ≠ a → H b = none := fun b hb => Classical.byContradiction fun z => hb (hA b z).1
    have dict : ∀ {b : Addr} {mm : Str → Option Value}, s₁.heap.Ns b mm → (hidT s₁.heap H).Ns b mm := by
      rintro b mm ⟨o, es, ep, e, d, r⟩
      refine ⟨o, es, ep, hidT_get e (off b fun z => ?_), d, r⟩
      rw [z, ha] at e
      cases e
      cases d
    have hKb : K.In (hidT s₁.heap H) := fun b o e => hidT_get (KX b o e) (Classical.byContradiction fun z => by
      obtain ⟨e1, e2, _⟩ := hA b z
      rw [e1, e2] at e
      cases e)
    have e0 : Env0 P w K mg (hidT s₁.heap H) callerA [] s₁ H :=
      ⟨rfl, ⟨hKb, dict hns, ⟨mb, dict hb, hbb⟩, hlim.elim fun mc hc => ⟨mc, dict hc.1, hc.2⟩⟩, fun b o e => of_hidT e, Nat.le_of_eq (hidT_size _ _), trivial, fun b hb => (nomatch hb), hok, .of_eq hg⟩
    obtain ⟨hh, eh⟩ := hm ns hl
    have sp : spM ⟨K, T⟩ m [.ref a] H (fun v _ => v = .bl true) fun _ _ _ => False := by
      refine ⟨cf0 H, [.fz (ns.map .int)], ah0, rel0 _ H, .cons (script_rep hS) .nil, ?_⟩
      rw [eh]
      intro c' v H' _ _ r
      exact rp_bl r
    refine codeAny_mono ((F _ hKb (dict hns)).run callerA [] s₁ H ⟨[.ref a], []⟩ [.ref a] [.ref a] _ _ hr e0 (hbind s₁ (.ref a)) (.cons rfl .nil) sp) fun r s' h => ?_
    cases r with
    | error e =>
      obtain ⟨_, _, _, _, _, _, _, _, _, _, _, _, z⟩ := h
      exact z.elim
    | ok fl =>
      cases fl with
      | ret u =>
        obtain ⟨v, H', os, bare, un, hok', ru, rfl⟩ := h
        cases (show u = Value.bool true from ru)
        refine ⟨rfl, OldK.of_keep fun b o e => ?_, os, bare⟩
        cases q : H b with
        | none => exact un.keep b o e q (fun z => (nomatch z)) (fun z => (nomatch z))
        | some y =>
          obtain ⟨_, _, eb⟩ := hA b (by rw [q]; exact nofun)
          have o1 := (hok b _ eb).1
          have o2 := (hok' b _ (un.frzs b _ _ eb)).1
          rw [e] at o1
          cases o1
          exact o2
      | next => exact False.elim h
      | brk => exact False.elim h
      | cont => exact False.elim h
  cases hk : K.lookup a with
  | some o =>
    have e := KX a o hk
    rw [ha] at e
    cases e
    exact go (fun _ => none) (.inr ⟨_, vs.toArray, _, hk, rfl, rfl, rfl, by rw [List.size_toArray, hi.length]; exact hl2, by simpa using rv⟩) (fun b u z => (nomatch z)) fun b z => absurd rfl z
  | none =>
    refine go (fun b => if b = a then some (.frz { cls := .type "list", data := .seq vs.toArray } (.lst (ns.map V.int))) else none) (.inl (.inr ⟨_, if_pos rfl⟩)) (fun b u z => ?_) fun b z => ?_
    · have z : (if b = a then some _ else none) = some u := z
      by_cases hb : b = a
      · subst hb
        rw [if_pos rfl] at z
        cases z
        exact ⟨ha, by rw [List.length_map]; exact hl2, vs, _, rv, ha⟩
      · rw [if_neg hb] at z
        cases z
    · by_cases hb : b = a
      · exact ⟨hb, hk, if_pos hb⟩
      · exact absurd (if_neg hb) z
/-- the law's row, from its mirror -/
theorem walk_law {l : PySem.W.OpenLaw} {k : Nat} {q : Program} {loose : List Str} {XP : (Str → Option Value) → Heap → Prop} {YP : World → Heap → Prop} {d : DefRec} {x : Str} {m : MF}
    (hn : l.most = some 63) (hdf : d.params.defaults = []) (hr : Rm k callerA)
    (F : ∀ (w : World) (mg : Str → Option Value) (fa : Addr) (h : Heap), YP w h → h.Ns mainGlobals mg → mg d.name = some (.ref fa) →
      ∃ (K : PySem.W.Frag) (T : Nat → Addr) (fd : FuncData), K.In h ∧ (∀ (s : Shared) (u : Value), BindsTo s fd ⟨[u], []⟩ [(x, u)]) ∧ ∀ base : Heap, K.In base → base.Ns mainGlobals mg → Fn l.prog w K T mg base k fa fd [x] m)
    (hm : LawTrue m) : PySem.W.WalkO q loose XP YP l.row.toRowW d [] (fun f vs => PySem.call f vs) := by
  refine Att.attach_call hn hdf fun w s₀ s₁ mg mb fa o pm cd doc a vs ns G Y ho hd hcd hmg hobj hints hlen hg => ?_
  obtain ⟨K, T, fd, KX, hb, hF⟩ := F w mg fa _ Y G.T.g hmg
  exact run_law KX G.T.g G.T.b G.T.builtins G.T.nolimit hg hobj hints hlen hr hF hb hm
end MP
set_option Elab.async false
set_option linter.all false
set_option maxRecDepth 100000
/-! mirrors: how they are reckoned with -/
namespace MP
open PySem PySem.Spec L2

theorem AH.put_g (h : AH) (i : Nat) (o : AO) (k : Nat) : (h.put i o).g k = if k = i then some o else h.g k := rfl
theorem AH.put_n (h : AH) (i : Nat) (o : AO) : (h.put i o).n = h.n := rfl
theorem AH.new_g (h : AH) (o : AO) (k : Nat) : (h.new o).g k = if k = h.n then some o else h.g k := rfl
theorem AH.new_n (h : AH) (o : AO) : (h.new o).n = h.n + 1 := rfl
theorem AH.put_same (h : AH) (i : Nat) (o : AO) : (h.put i o).g i = some o := by rw [AH.put_g, if_pos rfl]
theorem AH.new_same (h : AH) (o : AO) : (h.new o).g h.n = some o := by rw [AH.new_g, if_pos rfl]
theorem AH.put_ne {h : AH} {i k : Nat} {o : AO} (e : k ≠ i) : (h.put i o).g k = h.g k := by rw [AH.put_g, if_neg e]
theorem AH.new_ne {h : AH} {k : Nat} {o : AO} (e : k ≠ h.n) : (h.new o).g k = h.g k := by rw [AH.new_g, if_neg e]
theorem AH.put_put (h : AH) (i : Nat) (o o' : AO) : (h.put i o).put i o' = h.put i o' := by
  unfold AH.put
  congr 1
  funext k
  by_cases e : k = i
  · simp [e]
  · simp [e]
theorem AH.new_put (h : AH) (o o' : AO) : (h.new o).put h.n o' = h.new o' := by
  unfold AH.put AH.new
  congr 1
  funext k
  by_cases e : k = h.n
  · simp [e]
  · simp [e]
/-- nothing lies behind the last one -/
def AH.wf (h : AH) : Prop := ∀ k, h.n ≤ k → h.g k = none
theorem AH.wf.lt {h : AH} (w : h.wf) {k : Nat} {o : AO} (e : h.g k = some o) : k < h.n := Nat.lt_of_not_le fun z => by rw [w k z] at e; cases e
theorem AH.wf.put {h : AH} (w : h.wf) {k : Nat} {o o' : AO} (e : h.g k = some o) : (h.put k o').wf := fun j hj => by
  have := w.lt e
  rw [AH.put_ne (by rw [AH.put_n] at hj; omega)]
  exact w j hj
theorem AH.wf.new {h : AH} (w : h.wf) (o : AO) : (h.new o).wf := fun j hj => by
  rw [AH.new_n] at hj
  rw [AH.new_ne (by omega)]
  exact w j (by omega)
theorem ah0_wf : (⟨0, fun _ => none⟩ : AH).wf := fun _ _ => rfl

/-- all but b is as it was -/
structure But (b : Nat) (h h' : AH) : Prop where
  n : h'.n = h.n
  g : ∀ k, k ≠ b → h'.g k = h.g k
theorem But.refl {b : Nat} {h : AH} : But b h h := ⟨rfl, fun _ _ => rfl⟩
theorem But.trans {b : Nat} {h h1 h2 : AH} (a : But b h h1) (c : But b h1 h2) : But b h h2 := ⟨c.n.trans a.n, fun k e => (c.g k e).trans (a.g k e)⟩
theorem But.put {b : Nat} {h : AH} {o : AO} : But b h (h.put b o) := ⟨rfl, fun _ e => AH.put_ne e⟩
theorem But.wf {b : Nat} {h h' : AH} (a : But b h h') (w : h.wf) {o : AO} (e : h.g b = some o) : h'.wf := fun k hk => by
  have := w.lt e
  rw [a.n] at hk
  rw [a.g k (by omega)]
  exact w k hk
/-- the heap has grown, what stood stands, but for what may change -/
structure Grows (c : Nat → Prop) (h h' : AH) : Prop where
  n : h.n ≤ h'.n
  g : ∀ k, k < h.n → ¬ c k → h'.g k = h.g k
theorem Grows.refl {c : Nat → Prop} {h : AH} : Grows c h h := ⟨Nat.le_refl _, fun _ _ _ => rfl⟩
theorem Grows.trans {c : Nat → Prop} {h h1 h2 : AH} (a : Grows c h h1) (b : Grows c h1 h2) : Grows c h h2 :=
  ⟨Nat.le_trans a.n b.n, fun k hk e => (b.g k (Nat.lt_of_lt_of_le hk a.n) e).trans (a.g k hk e)⟩
theorem But.grows {b : Nat} {c : Nat → Prop} {h h' : AH} (a : But b h h') (hb : c b) : Grows c h h' := ⟨Nat.le_of_eq a.n.symm, fun k _ e => a.g k fun z => e (z ▸ hb)⟩
theorem Grows.new {c : Nat → Prop} {h : AH} {o : AO} : Grows c h (h.new o) := ⟨Nat.le_succ _, fun k hk _ => AH.new_ne (Nat.ne_of_lt hk)⟩
theorem Grows.put {c : Nat → Prop} {h : AH} {i : Nat} {o : AO} (hi : c i) : Grows c h (h.put i o) := ⟨Nat.le_refl _, fun k _ e => AH.put_ne fun z => e (z ▸ hi)⟩

/-- an index known to lie in a list of four, of three, .. -/
theorem atI_0 {α : Type} (a : α) (l : List α) : atI (a :: l) 0 = some a := atI_nat (j := 0) rfl
theorem atI_get {α : Type} {l : List α} {i : Nat} {a : α} (h : l[i]? = some a) : atI l (i : Int) = some a := atI_nat h

/-- a for loop that goes to its end -/
theorem forL_all {ok : AH → Bool} {g : MG} {b : MS} (P : Nat → Sl → AH → Prop) (hok : ∀ i s h, P i s h → ok h = true) :
    ∀ (xs : List D) (i : Nat) (s : Sl) (h : AH), P i s h → (∀ j x s h, xs[j]? = some x → P (i + j) s h → ∃ s1 h1 s2 h2, g x s h = some (s1, h1) ∧ (b s1 h1 = .nx s2 h2 ∨ b s1 h1 = .ct s2 h2) ∧ P (i + j + 1) s2 h2) →
      ∃ s' h', forL ok g b xs s h = .nx s' h' ∧ P (i + xs.length) s' h'
  | [], i, s, h, p, _ => ⟨s, h, by simp [forL, hok i s h p], p⟩
  | x :: xs, i, s, h, p, st => by
    obtain ⟨s1, h1, s2, h2, e1, e2, p2⟩ := st 0 x s h rfl p
    obtain ⟨s', h', e, q⟩ := forL_all P hok xs (i + 1) s2 h2 p2 (fun j y s h hy hp => by
      have := st (j + 1) y s h (by simpa using hy) (by rw [show i + (j + 1) = i + 1 + j by omega]; exact hp)
      rw [show i + (j + 1) + 1 = i + 1 + j + 1 by omega] at this
      exact this)
    refine ⟨s', h', ?_, by rw [List.length_cons, show i + (xs.length + 1) = i + 1 + xs.length by omega]; exact q⟩
    simp only [forL, hok i s h p, if_pos rfl, e1]
    rcases e2 with e2 | e2 <;> (rw [e2]; exact e)
theorem rng_len (lo hi : Int) : (rng lo hi).length = (hi - lo).toNat := by simp [rng]
theorem rng_get {lo hi : Int} {j : Nat} {x : D} (h : (rng lo hi)[j]? = some x) : x = .int (lo + (j : Nat)) ∧ (j : Int) < hi - lo := by
  have hj : j < (hi - lo).toNat := by
    rw [← rng_len lo hi]
    exact (List.getElem?_eq_some_iff.mp h).1
  simp only [rng, List.getElem?_map, List.getElem?_range hj, Option.map_some, Option.some.injEq] at h
  exact ⟨h.symm, by omega⟩
/-- a for loop over a range -/
theorem forR {g : MG} {b : MS} {lo hi : Int} (P : Int → Sl → AH → Prop) {s : Sl} {h : AH} (hl : lo ≤ hi) (p : P lo s h)
    (st : ∀ i s h, lo ≤ i → i < hi → P i s h → ∃ s1 h1 s2 h2, g (.int i) s h = some (s1, h1) ∧ (b s1 h1 = .nx s2 h2 ∨ b s1 h1 = .ct s2 h2) ∧ P (i + 1) s2 h2) :
    ∃ s' h', forL (fun _ => true) g b (rng lo hi) s h = .nx s' h' ∧ P hi s' h' := by
  obtain ⟨s', h', e, q⟩ := forL_all (ok := fun _ => true) (g := g) (b := b) (fun j s h => P (lo + (j : Nat)) s h) (fun _ _ _ _ => rfl) (rng lo hi) 0 s h (by simpa using p) (fun j x s h hx hp => by
    obtain ⟨rfl, hj⟩ := rng_get hx
    rw [Nat.zero_add] at hp
    obtain ⟨s1, h1, s2, h2, e1, e2, p2⟩ := st _ s h (by omega) (by omega) hp
    exact ⟨s1, h1, s2, h2, e1, e2, by rw [Nat.zero_add]; push_cast; rw [← Int.add_assoc]; exact p2⟩)
  refine ⟨s', h', e, ?_⟩
  rw [Nat.zero_add, rng_len] at q
  rw [show lo + ((hi - lo).toNat : Nat) = hi by omega] at q
  exact q

theorem ixN_0 (n : Nat) : ixN (n + 1) 0 = some 0 := by rw [ixN, if_pos (by omega), if_pos (by omega)]; rfl
theorem ixN_1 (n : Nat) : ixN (n + 2) 1 = some 1 := by rw [ixN, if_pos (by omega), if_pos (by omega)]; rfl
theorem ixN_2 (n : Nat) : ixN (n + 3) 2 = some 2 := by rw [ixN, if_pos (by omega), if_pos (by omega)]; rfl
theorem ixN_3 (n : Nat) : ixN (n + 4) 3 = some 3 := by rw [ixN, if_pos (by omega), if_pos (by omega)]; rfl
theorem ixN_4 (n : Nat) : ixN (n + 5) 4 = some 4 := by rw [ixN, if_pos (by omega), if_pos (by omega)]; rfl
theorem ixN_5 (n : Nat) : ixN (n + 6) 5 = some 5 := by rw [ixN, if_pos (by omega), if_pos (by omega)]; rfl
theorem ixN_6 (n : Nat) : ixN (n + 7) 6 = some 6 := by rw [ixN, if_pos (by omega), if_pos (by omega)]; rfl
theorem ixN_7 (n : Nat) : ixN (n + 8) 7 = some 7 := by rw [ixN, if_pos (by omega), if_pos (by omega)]; rfl
theorem ixN_8 (n : Nat) : ixN (n + 9) 8 = some 8 := by rw [ixN, if_pos (by omega), if_pos (by omega)]; rfl
theorem ixN_9 (n : Nat) : ixN (n + 10) 9 = some 9 := by rw [ixN, if_pos (by omega), if_pos (by omega)]; rfl
theorem ixN_10 (n : Nat) : ixN (n + 11) 10 = some 10 := by rw [ixN, if_pos (by omega), if_pos (by omega)]; rfl
theorem ixN_11 (n : Nat) : ixN (n + 12) 11 = some 11 := by rw [ixN, if_pos (by omega), if_pos (by omega)]; rfl
theorem ixN_12 (n : Nat) : ixN (n + 13) 12 = some 12 := by rw [ixN, if_pos (by omega), if_pos (by omega)]; rfl
theorem ixN_13 (n : Nat) : ixN (n + 14) 13 = some 13 := by rw [ixN, if_pos (by omega), if_pos (by omega)]; rfl
theorem ixN_m1 (n : Nat) : ixN (n + 1) (-1) = some n := by rw [ixN, if_neg (by omega), if_pos (by omega)]; congr 1; omega
theorem ixN_nat {n j : Nat} (h : j < n) : ixN n (j : Int) = some j := by simp [ixN, h]
theorem isi_ii : isiB "int" "int" = true := by decide
theorem isi_ib : isiB "int" "bool" = false := by decide
theorem isi_bi : isiB "bool" "int" = true := by decide
theorem isi_bb : isiB "bool" "bool" = true := by decide
theorem isi_ni : isiB "NoneType" "int" = false := by decide
theorem isi_si : isiB "str" "int" = false := by decide
theorem isi_ti : isiB "tuple" "int" = false := by decide
theorem isi_li : isiB "list" "int" = false := by decide
theorem isi_ss : isiB "str" "str" = true := by decide
theorem isi_is : isiB "int" "str" = false := by decide
theorem isi_tt : isiB "tuple" "tuple" = true := by decide
theorem ne_true_f : (false = true) = False := by simp
end MP
set_option Elab.async false
set_option linter.all false
set_option maxRecDepth 100000
set_option maxHeartbeats 4000000
/-! mirrors: the bag of numbers that the laws draw from -/
namespace MP
open PySem PySem.Spec L2
def f_take : MF := fnM 2 7 (sSeq (sIf (tstB (eBin pGt (eBin pIx (eVar 0) (eC (.int 0))) (eC (.int 0)))) (sSeq (sSet 2 (eBin pMod (eBin pIx (eVar 0) (eC (.int 0))) (eVar 1))) (sSeq (sAsg (eBin pDiv (eBin pIx (eVar 0) (eC (.int 0))) (eVar 1)) (gIx (eVar 0) (eC (.int 0)))) (sRet (eVar 2)))) (sNil)) (sSeq (sSet 3 (eTup (aCons (eC (.int 2147483647)) (aCons (eC (.int 2147483629)) (aCons (eC (.int 2147483587)) (aCons (eC (.int 2147483579)) (aCons (eC (.int 2147483563)) (aCons (eC (.int 2147483549)) (aCons (eC (.int 2147483543)) (aCons (eC (.int 2147483497)) (aNil))))))))))) (sSeq (sAsg (eBin pAdd (eBin pIx (eVar 0) (eC (.int 2))) (eC (.int 1))) (gIx (eVar 0) (eC (.int 2)))) (sSeq (sSet 4 (eBin pIx (eVar 0) (eC (.int 2)))) (sSeq (sSet 5 (eBin pAdd (eBin pMul (eBin pAdd (eBin pIx (eVar 0) (eC (.int 1))) (eC (.int 1))) (eBin pAdd (eBin pMul (eC (.int 2)) (eVar 4)) (eC (.int 3)))) (eBin pMul (eBin pMul (eC (.int 6007)) (eVar 4)) (eVar 4)))) (sSeq (sSet 6 (eBin pMod (eBin pPow (eVar 5) (eC (.int 3))) (eBin pIx (eVar 3) (eBin pMod (eVar 4) (eC (.int 8)))))) (sRet (eBin pMod (eBin pDiv (eBin pMod (eBin pMul (eVar 6) (eBin pAdd (eBin pDiv (eVar 6) (eC (.int 8192))) (eC (.int 11)))) (eBin pIx (eVar 3) (eBin pMod (eBin pAdd (eVar 4) (eC (.int 3))) (eC (.int 8))))) (eC (.int 32))) (eVar 1)))))))))
def f_bagA : MF := fnM 2 3 (sSeq (sSet 2 (eBin pAdd (eBin pMul (eC (.int 5081)) (eVar 1)) (eC (.int 3)))) (sSeq (sIf (tstB (eBin pLt (eVar 1) (eFn fLen (aCons (eVar 0) (aNil))))) (sSet 2 (eBin pIx (eVar 0) (eVar 1))) (sNil)) (sRet (eLstN (aCons (eBin pMul (eFn fAbs (aCons (eVar 2) (aNil))) (eFn fInt (aCons (eBin pGe (eFn fAbs (aCons (eVar 2) (aNil))) (eBin pPow (eC (.int 10)) (eC (.int 18)))) (aNil)))) (aCons (eBin pAdd (eBin pMod (eVar 2) (eC (.int 2147483587))) (eBin pMul (eC (.int 40009)) (eVar 1))) (aCons (eC (.int 0)) (aNil))))))))
def f_bagB : MF := fnM 2 3 (sSeq (sSet 2 (eBin pAdd (eBin pMul (eC (.int 5081)) (eVar 1)) (eC (.int 3)))) (sSeq (sIf (tstB (eBin pLt (eVar 1) (eFn fLen (aCons (eVar 0) (aNil))))) (sSet 2 (eBin pIx (eVar 0) (eVar 1))) (sNil)) (sRet (eLstN (aCons (eBin pMul (eFn fAbs (aCons (eVar 2) (aNil))) (eFn fInt (aCons (eBin pGe (eFn fAbs (aCons (eVar 2) (aNil))) (eBin pPow (eC (.int 10)) (eC (.int 18)))) (aNil)))) (aCons (eBin pAdd (eBin pMod (eVar 2) (eC (.int 1000000000000000003))) (eBin pMul (eC (.int 40009)) (eVar 1))) (aCons (eC (.int 0)) (aNil))))))))

theorem pMul_ok {h : AH} {i j : Int} (c : (-18446744073709551616 < i ∧ i < 18446744073709551616) ∨ (-18446744073709551616 < j ∧ j < 18446744073709551616)) : pMul h (.int i) (.int j) = some (.int (i * j)) := by
  unfold pMul
  dsimp only
  rw [if_pos (by simpa using c)]
theorem pDiv_ok {h : AH} {i j : Int} (c : 0 < j ∧ j < 2 ^ 200) : pDiv h (.int i) (.int j) = some (.int (i / j)) := by
  unfold pDiv
  dsimp only
  rw [if_pos c]
theorem pMod_ok {h : AH} {i j : Int} (c : 0 < j) : pMod h (.int i) (.int j) = some (.int (i % j)) := by
  unfold pMod
  dsimp only
  rw [if_pos c]
theorem pPow_ok {h : AH} {i j : Int} (c : 0 ≤ j ∧ j ≤ 1000) (d : i.natAbs < 2 ^ 200) : pPow h (.int i) (.int j) = some (.int (i ^ j.toNat)) := by
  unfold pPow
  dsimp only
  rw [if_pos ⟨c.1, c.2, d⟩]
/-- the bag of numbers at b: so many were mixed at most -/
def Bag (h : AH) (b : Nat) (k : Int) : Prop := ∃ x y z : Int, h.g b = some (.lst [.int x, .int y, .int z]) ∧ 0 ≤ x ∧ 0 ≤ y ∧ y < 2305843009213693952 ∧ 0 ≤ z ∧ z ≤ k
theorem Bag.mono {h : AH} {b : Nat} {k k' : Int} (B : Bag h b k) (e : k ≤ k') : Bag h b k' := by
  obtain ⟨x, y, z, e1, h1, h2, h3, h4, h5⟩ := B
  exact ⟨x, y, z, e1, h1, h2, h3, h4, by omega⟩
theorem Bag.keep {h h' : AH} {b : Nat} {k : Int} (B : Bag h b k) (e : h'.g b = h.g b) : Bag h' b k := by
  obtain ⟨x, y, z, e1, q⟩ := B
  exact ⟨x, y, z, e.trans e1, q⟩
theorem base_le {y z : Int} (h2 : 0 ≤ y) (h3 : y < 2305843009213693952) (h4 : 0 ≤ z) (h5 : z < 1073741824) : ((y + 1) * (2 * z + 3) + 6007 * z * z).natAbs < 2 ^ 200 := by
  have a : (y + 1) * (2 * z + 3) ≤ 2305843009213693952 * (2 * 1073741824 + 3) := Int.mul_le_mul (by omega) (by omega) (by omega) (by omega)
  have a0 : 0 ≤ (y + 1) * (2 * z + 3) := Int.mul_nonneg (by omega) (by omega)
  have b : 6007 * z * z ≤ (6007 * 1073741824) * 1073741824 := Int.mul_le_mul (by omega) (by omega) (by omega) (by omega)
  have b0 : 0 ≤ 6007 * z * z := Int.mul_nonneg (by omega) (by omega)
  have e : (2:Nat) ^ 200 = 1606938044258990275541962092341162602522202993782792835301376 := by decide
  rw [e]
  omega
theorem atI_1 {α : Type} (a b : α) (l : List α) : atI (a :: b :: l) 1 = some b := atI_nat (j := 1) rfl
theorem atI_2 {α : Type} (a b c : α) (l : List α) : atI (a :: b :: c :: l) 2 = some c := atI_nat (j := 2) rfl
theorem atI_3 {α : Type} (a b c d : α) (l : List α) : atI (a :: b :: c :: d :: l) 3 = some d := atI_nat (j := 3) rfl
theorem put_put_same (h : AH) (b : Nat) (o o' : AO) : ((h.put b o).put b o').g b = some o' := by rw [AH.put_same]
theorem primes_at (z : Int) : ∃ p : Int, atI [D.int 2147483647, .int 2147483629, .int 2147483587, .int 2147483579, .int 2147483563, .int 2147483549, .int 2147483543, .int 2147483497] (z % 8) = some (.int p) ∧ 2147483497 ≤ p ∧ p ≤ 2147483647 := by
  have h : z % 8 = 0 ∨ z % 8 = 1 ∨ z % 8 = 2 ∨ z % 8 = 3 ∨ z % 8 = 4 ∨ z % 8 = 5 ∨ z % 8 = 6 ∨ z % 8 = 7 := by omega
  rcases h with h | h | h | h | h | h | h | h <;> (rw [h]; exact ⟨_, rfl, by decide, by decide⟩)
theorem take_ok {h : AH} {b : Nat} {k n : Int} (B : Bag h b k) (hk : k < 1000000000) (hn : 0 < n) (hn2 : n < 2 ^ 200) :
    ∃ r h', f_take [.ref b, .int n] h = .ok (.int r) h' ∧ 0 ≤ r ∧ r < n ∧ Bag h' b (k + 1) ∧ But b h h' := by
  obtain ⟨x, y, z, e1, h1, h2, h3, h4, h5⟩ := B
  by_cases hx : 0 < x
  · have hd : pDiv h (.int x) (.int n) = some (.int (x / n)) := pDiv_ok ⟨hn, hn2⟩
    have hm : pMod h (.int x) (.int n) = some (.int (x % n)) := pMod_ok hn
    refine ⟨x % n, h.put b (.lst [.int (x / n), .int y, .int z]), ?_, Int.emod_nonneg _ (by omega), Int.emod_lt_of_pos _ hn, ⟨x / n, y, z, AH.put_same .., Int.ediv_nonneg h1 (by omega), h2, h3, h4, by omega⟩, .put⟩
    simp (disch := omega) only [fnM, eVar, eC, eBin, eUn, aNil, aCons, eTup, eLst, eLstN, eFn, eIf, eFld, eCall, eMeth, eMake, insOf, tst, tstB, MP.tAnd, MP.tOr, MP.tNot, eAnd, eOr, eNot, eChain, truth, optR, Res.bind, Res.bindS, sNil, sSeq, sExp, sRet, sRetN, sIf, sAsg, sSet, sPar, MP.sFld, MP.sFldAug, sFor, nxO, gNm, gFld, gIx, setIx, setFld, gsNil, gsCons, gTp, gLs, MP.iRng1, MP.iRng2, iSeq, iLst, MP.iTup, seqL, seqM, seqT, seqX, eIsi, tyName, isi_ii, isi_ib, isi_bi, isi_bb, isi_ni, isi_si, isi_ss, isi_is, isi_tt, isi_ti, isi_li, pAdd, pSub, pMul_ok, pDiv_ok, pMod_ok, pPow_ok, pNeg, pLt, pLe, pGt, pGe, pEq, pNe, pEqB, sEq, pIs, pIsNot, isNon, pIx, fAbs, fMax2, fMin2, fInt, fLen, gSel, pick, AH.put_g, AH.put_n, AH.new_g, AH.new_n, AH.put_same, AH.new_same, AH.put_put, AH.new_put, List.length_cons, List.length_nil, List.map_cons, List.map_nil, List.cons_append, List.nil_append, List.append_nil, List.replicate, List.getElem?_cons_zero, List.getElem?_cons_succ, List.getElem?_nil, List.set_cons_zero, List.set_cons_succ, List.flatMap_cons, List.flatMap_nil, List.drop_zero, List.drop_succ_cons, List.drop_nil, List.take_succ_cons, List.take_zero, List.take_nil, List.contains_cons, List.contains_nil, Bool.or_false, Bool.or_true, Bool.true_or, Bool.false_or, Bool.and_true, Bool.and_false, Bool.not_true, Bool.not_false, beq_self_eq_true, Nat.reduceAdd, Nat.reduceSub, Nat.reduceLeDiff, Nat.reduceLT, Nat.reduceEqDiff, Nat.reduceBEq, Int.reduceToNat, ↓reduceIte, reduceIte, Bool.false_eq_true, ne_true_f, decide_eq_true_eq, and_self, and_true, true_and, Nat.zero_le, Option.map_some, Option.map_none, Option.bind_some, Int.reducePow, Int.reduceLT, Int.reduceLE, Int.reduceNeg, decide_true, decide_false, ixN_0, ixN_1, ixN_2, ixN_3, ixN_m1, atI_1, atI_2, atI_3, eq_self, Option.some.injEq, atI_0, Nat.zero_add, Nat.add_zero, f_take, e1, hx, hd, hm, atI, ixN_0, Option.bind_some]
  · obtain ⟨p, hp, p1, p2⟩ := primes_at (z + 1)
    obtain ⟨q, hq, q1, q2⟩ := primes_at (z + 1 + 3)
    have u0 := Int.emod_nonneg (((y + 1) * (2 * (z + 1) + 3) + 6007 * (z + 1) * (z + 1)) ^ 3) (show p ≠ 0 by omega)
    have u1 := Int.emod_lt_of_pos (((y + 1) * (2 * (z + 1) + 3) + 6007 * (z + 1) * (z + 1)) ^ 3) (show 0 < p by omega)
    generalize hB : ((y + 1) * (2 * (z + 1) + 3) + 6007 * (z + 1) * (z + 1)) ^ 3 % p = g at u0 u1
    have v0 := Int.emod_nonneg (g * (g / 8192 + 11)) (show q ≠ 0 by omega)
    have v1 := Int.emod_lt_of_pos (g * (g / 8192 + 11)) (show 0 < q by omega)
    have pw : ∀ h, pPow h (.int ((y + 1) * (2 * (z + 1) + 3) + 6007 * (z + 1) * (z + 1))) (.int 3) = some (.int (((y + 1) * (2 * (z + 1) + 3) + 6007 * (z + 1) * (z + 1)) ^ 3)) := fun h => pPow_ok (by decide) (base_le h2 h3 (by omega) (by omega))
    have m1 : ∀ h, pMul h (.int (y + 1)) (.int (2 * (z + 1) + 3)) = some (.int ((y + 1) * (2 * (z + 1) + 3))) := fun h => pMul_ok (by omega)
    have m2 : ∀ h, pMul h (.int (6007 * (z + 1))) (.int (z + 1)) = some (.int (6007 * (z + 1) * (z + 1))) := fun h => pMul_ok (by omega)
    have m3 : ∀ h, pMul h (.int g) (.int (g / 8192 + 11)) = some (.int (g * (g / 8192 + 11))) := fun h => pMul_ok (by omega)
    have m4 : ∀ h i, pMul h (.int 2) (.int i) = some (.int (2 * i)) := fun h i => pMul_ok (by omega)
    have m5 : ∀ h i, pMul h (.int 6007) (.int i) = some (.int (6007 * i)) := fun h i => pMul_ok (by omega)
    have e8 : ∀ h i, pMod h (.int i) (.int 8) = some (.int (i % 8)) := fun h i => pMod_ok (by decide)
    have ep : ∀ h i, pMod h (.int i) (.int p) = some (.int (i % p)) := fun h i => pMod_ok (by omega)
    have eq : ∀ h i, pMod h (.int i) (.int q) = some (.int (i % q)) := fun h i => pMod_ok (by omega)
    have en : ∀ h i, pMod h (.int i) (.int n) = some (.int (i % n)) := fun h i => pMod_ok hn
    have d1 : ∀ h i, pDiv h (.int i) (.int 8192) = some (.int (i / 8192)) := fun h i => pDiv_ok (by decide)
    have d2 : ∀ h i, pDiv h (.int i) (.int 32) = some (.int (i / 32)) := fun h i => pDiv_ok (by decide)
    refine ⟨g * (g / 8192 + 11) % q / 32 % n, h.put b (.lst [.int x, .int y, .int (z + 1)]), ?_, Int.emod_nonneg _ (by omega), Int.emod_lt_of_pos _ hn, ⟨x, y, z + 1, AH.put_same .., h1, h2, h3, by omega, by omega⟩, .put⟩
    simp (disch := omega) only [fnM, eVar, eC, eBin, eUn, aNil, aCons, eTup, eLst, eLstN, eFn, eIf, eFld, eCall, eMeth, eMake, insOf, tst, tstB, MP.tAnd, MP.tOr, MP.tNot, eAnd, eOr, eNot, eChain, truth, optR, Res.bind, Res.bindS, sNil, sSeq, sExp, sRet, sRetN, sIf, sAsg, sSet, sPar, MP.sFld, MP.sFldAug, sFor, nxO, gNm, gFld, gIx, setIx, setFld, gsNil, gsCons, gTp, gLs, MP.iRng1, MP.iRng2, iSeq, iLst, MP.iTup, seqL, seqM, seqT, seqX, eIsi, tyName, isi_ii, isi_ib, isi_bi, isi_bb, isi_ni, isi_si, isi_ss, isi_is, isi_tt, isi_ti, isi_li, pAdd, pSub, pMul_ok, pDiv_ok, pMod_ok, pPow_ok, pNeg, pLt, pLe, pGt, pGe, pEq, pNe, pEqB, sEq, pIs, pIsNot, isNon, pIx, fAbs, fMax2, fMin2, fInt, fLen, gSel, pick, AH.put_g, AH.put_n, AH.new_g, AH.new_n, AH.put_same, AH.new_same, AH.put_put, AH.new_put, List.length_cons, List.length_nil, List.map_cons, List.map_nil, List.cons_append, List.nil_append, List.append_nil, List.replicate, List.getElem?_cons_zero, List.getElem?_cons_succ, List.getElem?_nil, List.set_cons_zero, List.set_cons_succ, List.flatMap_cons, List.flatMap_nil, List.drop_zero, List.drop_succ_cons, List.drop_nil, List.take_succ_cons, List.take_zero, List.take_nil, List.contains_cons, List.contains_nil, Bool.or_false, Bool.or_true, Bool.true_or, Bool.false_or, Bool.and_true, Bool.and_false, Bool.not_true, Bool.not_false, beq_self_eq_true, Nat.reduceAdd, Nat.reduceSub, Nat.reduceLeDiff, Nat.reduceLT, Nat.reduceEqDiff, Nat.reduceBEq, Int.reduceToNat, ↓reduceIte, reduceIte, Bool.false_eq_true, ne_true_f, decide_eq_true_eq, and_self, and_true, true_and, Nat.zero_le, Option.map_some, Option.map_none, Option.bind_some, Int.reducePow, Int.reduceLT, Int.reduceLE, Int.reduceNeg, decide_true, decide_false, ixN_0, ixN_1, ixN_2, ixN_3, ixN_m1, atI_1, atI_2, atI_3, eq_self, Option.some.injEq, atI_0, Nat.zero_add, Nat.add_zero, f_take, e1, hx, ixN_0, ixN_1, ixN_2, atI_1, atI_2, hp, hq, hB, pw, m1, m2, m3, m4, m5, e8, ep, eq, en, d1, d2, decide_false]
theorem bagCore (c : Int) (a : Nat) (ha : a < 100000) {m : Int} (hm : 0 < m) (hm2 : m ≤ 1000000000000000003) :
    0 ≤ (if c < 0 then -c else c) * (if (1000000000000000000 ≤ (if c < 0 then -c else c)) then 1 else 0) ∧ 0 ≤ c % m + 40009 * (a : Int) ∧ c % m + 40009 * (a : Int) < 2305843009213693952 := by
  have u0 := Int.emod_nonneg c (show m ≠ 0 by omega)
  have u1 := Int.emod_lt_of_pos c hm
  refine ⟨?_, by omega, by omega⟩
  apply Int.mul_nonneg <;> split <;> omega
theorem pow10_18 (h : AH) : pPow h (.int 10) (.int 18) = some (.int 1000000000000000000) := by
  rw [pPow_ok (by decide) (by decide)]
  rfl
theorem bagMul (c : Int) (h : AH) (p : Prop) [Decidable p] : pMul h (.int c) (.int (if p then 1 else 0)) = some (.int (c * (if p then 1 else 0))) := pMul_ok (by split <;> omega)
def bagAO (m c : Int) (a : Nat) : AO := .lst [.int ((if c < 0 then -c else c) * (if 1000000000000000000 ≤ (if c < 0 then -c else c) then 1 else 0)), .int (c % m + 40009 * (a : Int)), .int 0]
theorem bag_mem {m c : Int} {a : Nat} {h : AH} (ha : a < 100000) (hm : 0 < m) (hm2 : m ≤ 1000000000000000003) : Bag (h.new (bagAO m c a)) h.n 0 := by
  obtain ⟨b1, b2, b3⟩ := bagCore c a ha hm hm2
  exact ⟨_, _, _, AH.new_same .., b1, b2, b3, Int.le_refl _, Int.le_refl _⟩
theorem bagA_1 (c : Int) (ns : List Int) (a : Nat) (h : AH) (hc : atI (ns.map D.int) (a : Int) = some (.int c)) (hl2 : (a : Int) < (ns.length : Int)) : f_bagA [.fz (ns.map .int), .int a] h = .ok (.ref h.n) (h.new (bagAO 2147483587 c a)) := by
  have m1 : ∀ h, pMul h (.int 5081) (.int a) = some (.int (5081 * (a : Int))) := fun h => pMul_ok (.inl (by decide))
  have m2 : ∀ h, pMul h (.int 40009) (.int a) = some (.int (40009 * (a : Int))) := fun h => pMul_ok (.inl (by decide))
  have m3 : ∀ h i, pMod h (.int i) (.int 2147483587) = some (.int (i % 2147483587)) := fun h i => pMod_ok (by decide)
  unfold bagAO
  simp (disch := omega) only [fnM, eVar, eC, eBin, eUn, aNil, aCons, eTup, eLst, eLstN, eFn, eIf, eFld, eCall, eMeth, eMake, insOf, tst, tstB, MP.tAnd, MP.tOr, MP.tNot, eAnd, eOr, eNot, eChain, truth, optR, Res.bind, Res.bindS, sNil, sSeq, sExp, sRet, sRetN, sIf, sAsg, sSet, sPar, MP.sFld, MP.sFldAug, sFor, nxO, gNm, gFld, gIx, setIx, setFld, gsNil, gsCons, gTp, gLs, MP.iRng1, MP.iRng2, iSeq, iLst, MP.iTup, seqL, seqM, seqT, seqX, eIsi, tyName, isi_ii, isi_ib, isi_bi, isi_bb, isi_ni, isi_si, isi_ss, isi_is, isi_tt, isi_ti, isi_li, pAdd, pSub, pDiv_ok, pNeg, pLt, pLe, pGt, pGe, pEq, pNe, pEqB, sEq, pIs, pIsNot, isNon, pIx, fAbs, fMax2, fMin2, fInt, fLen, gSel, pick, AH.put_g, AH.put_n, AH.new_g, AH.new_n, AH.put_same, AH.new_same, AH.put_put, AH.new_put, List.length_cons, List.length_nil, List.map_cons, List.map_nil, List.cons_append, List.nil_append, List.append_nil, List.replicate, List.getElem?_cons_zero, List.getElem?_cons_succ, List.getElem?_nil, List.set_cons_zero, List.set_cons_succ, List.flatMap_cons, List.flatMap_nil, List.drop_zero, List.drop_succ_cons, List.drop_nil, List.take_succ_cons, List.take_zero, List.take_nil, List.contains_cons, List.contains_nil, Bool.or_false, Bool.or_true, Bool.true_or, Bool.false_or, Bool.and_true, Bool.and_false, Bool.not_true, Bool.not_false, beq_self_eq_true, Nat.reduceAdd, Nat.reduceSub, Nat.reduceLeDiff, Nat.reduceLT, Nat.reduceEqDiff, Nat.reduceBEq, Int.reduceToNat, ↓reduceIte, reduceIte, Bool.false_eq_true, ne_true_f, decide_eq_true_eq, and_self, and_true, true_and, Nat.zero_le, Option.map_some, Option.map_none, Option.bind_some, Int.reduceLT, Int.reduceLE, Int.reduceNeg, decide_true, decide_false, ixN_0, ixN_1, ixN_2, ixN_3, ixN_m1, atI_1, atI_2, atI_3, eq_self, Option.some.injEq, atI_0, Nat.zero_add, Nat.add_zero, f_bagA, hc, hl2, List.length_map, bagMul, pow10_18, m1, m2, m3]
theorem bagA_2 (c : Int) (ns : List Int) (a : Nat) (h : AH) (hc : 5081 * (a : Int) + 3 = c) (hl2 : ¬ (a : Int) < (ns.length : Int)) : f_bagA [.fz (ns.map .int), .int a] h = .ok (.ref h.n) (h.new (bagAO 2147483587 c a)) := by
  have m1 : ∀ h, pMul h (.int 5081) (.int a) = some (.int (5081 * (a : Int))) := fun h => pMul_ok (.inl (by decide))
  have m2 : ∀ h, pMul h (.int 40009) (.int a) = some (.int (40009 * (a : Int))) := fun h => pMul_ok (.inl (by decide))
  have m3 : ∀ h i, pMod h (.int i) (.int 2147483587) = some (.int (i % 2147483587)) := fun h i => pMod_ok (by decide)
  unfold bagAO
  simp (disch := omega) only [fnM, eVar, eC, eBin, eUn, aNil, aCons, eTup, eLst, eLstN, eFn, eIf, eFld, eCall, eMeth, eMake, insOf, tst, tstB, MP.tAnd, MP.tOr, MP.tNot, eAnd, eOr, eNot, eChain, truth, optR, Res.bind, Res.bindS, sNil, sSeq, sExp, sRet, sRetN, sIf, sAsg, sSet, sPar, MP.sFld, MP.sFldAug, sFor, nxO, gNm, gFld, gIx, setIx, setFld, gsNil, gsCons, gTp, gLs, MP.iRng1, MP.iRng2, iSeq, iLst, MP.iTup, seqL, seqM, seqT, seqX, eIsi, tyName, isi_ii, isi_ib, isi_bi, isi_bb, isi_ni, isi_si, isi_ss, isi_is, isi_tt, isi_ti, isi_li, pAdd, pSub, pDiv_ok, pNeg, pLt, pLe, pGt, pGe, pEq, pNe, pEqB, sEq, pIs, pIsNot, isNon, pIx, fAbs, fMax2, fMin2, fInt, fLen, gSel, pick, AH.put_g, AH.put_n, AH.new_g, AH.new_n, AH.put_same, AH.new_same, AH.put_put, AH.new_put, List.length_cons, List.length_nil, List.map_cons, List.map_nil, List.cons_append, List.nil_append, List.append_nil, List.replicate, List.getElem?_cons_zero, List.getElem?_cons_succ, List.getElem?_nil, List.set_cons_zero, List.set_cons_succ, List.flatMap_cons, List.flatMap_nil, List.drop_zero, List.drop_succ_cons, List.drop_nil, List.take_succ_cons, List.take_zero, List.take_nil, List.contains_cons, List.contains_nil, Bool.or_false, Bool.or_true, Bool.true_or, Bool.false_or, Bool.and_true, Bool.and_false, Bool.not_true, Bool.not_false, beq_self_eq_true, Nat.reduceAdd, Nat.reduceSub, Nat.reduceLeDiff, Nat.reduceLT, Nat.reduceEqDiff, Nat.reduceBEq, Int.reduceToNat, ↓reduceIte, reduceIte, Bool.false_eq_true, ne_true_f, decide_eq_true_eq, and_self, and_true, true_and, Nat.zero_le, Option.map_some, Option.map_none, Option.bind_some, Int.reduceLT, Int.reduceLE, Int.reduceNeg, decide_true, decide_false, ixN_0, ixN_1, ixN_2, ixN_3, ixN_m1, atI_1, atI_2, atI_3, eq_self, Option.some.injEq, atI_0, Nat.zero_add, Nat.add_zero, f_bagA, hc, hl2, List.length_map, bagMul, pow10_18, m1, m2, m3]
theorem bagA_ok (ns : List Int) (a : Nat) (ha : a < 100000) (h : AH) : ∃ o, f_bagA [.fz (ns.map .int), .int a] h = .ok (.ref h.n) (h.new o) ∧ Bag (h.new o) h.n 0 := by
  by_cases hl : a < ns.length
  · have hg : (ns.map D.int)[a]? = some (.int ns[a]) := by simp [List.getElem?_eq_getElem hl]
    exact ⟨_, bagA_1 _ ns a h (atI_nat hg) (by omega), bag_mem ha (by decide) (by decide)⟩
  · exact ⟨_, bagA_2 _ ns a h rfl (by omega), bag_mem ha (by decide) (by decide)⟩
theorem bagB_1 (c : Int) (ns : List Int) (a : Nat) (h : AH) (hc : atI (ns.map D.int) (a : Int) = some (.int c)) (hl2 : (a : Int) < (ns.length : Int)) : f_bagB [.fz (ns.map .int), .int a] h = .ok (.ref h.n) (h.new (bagAO 1000000000000000003 c a)) := by
  have m1 : ∀ h, pMul h (.int 5081) (.int a) = some (.int (5081 * (a : Int))) := fun h => pMul_ok (.inl (by decide))
  have m2 : ∀ h, pMul h (.int 40009) (.int a) = some (.int (40009 * (a : Int))) := fun h => pMul_ok (.inl (by decide))
  have m3 : ∀ h i, pMod h (.int i) (.int 1000000000000000003) = some (.int (i % 1000000000000000003)) := fun h i => pMod_ok (by decide)
  unfold bagAO
  simp (disch := omega) only [fnM, eVar, eC, eBin, eUn, aNil, aCons, eTup, eLst, eLstN, eFn, eIf, eFld, eCall, eMeth, eMake, insOf, tst, tstB, MP.tAnd, MP.tOr, MP.tNot, eAnd, eOr, eNot, eChain, truth, optR, Res.bind, Res.bindS, sNil, sSeq, sExp, sRet, sRetN, sIf, sAsg, sSet, sPar, MP.sFld, MP.sFldAug, sFor, nxO, gNm, gFld, gIx, setIx, setFld, gsNil, gsCons, gTp, gLs, MP.iRng1, MP.iRng2, iSeq, iLst, MP.iTup, seqL, seqM, seqT, seqX, eIsi, tyName, isi_ii, isi_ib, isi_bi, isi_bb, isi_ni, isi_si, isi_ss, isi_is, isi_tt, isi_ti, isi_li, pAdd, pSub, pDiv_ok, pNeg, pLt, pLe, pGt, pGe, pEq, pNe, pEqB, sEq, pIs, pIsNot, isNon, pIx, fAbs, fMax2, fMin2, fInt, fLen, gSel, pick, AH.put_g, AH.put_n, AH.new_g, AH.new_n, AH.put_same, AH.new_same, AH.put_put, AH.new_put, List.length_cons, List.length_nil, List.map_cons, List.map_nil, List.cons_append, List.nil_append, List.append_nil, List.replicate, List.getElem?_cons_zero, List.getElem?_cons_succ, List.getElem?_nil, List.set_cons_zero, List.set_cons_succ, List.flatMap_cons, List.flatMap_nil, List.drop_zero, List.drop_succ_cons, List.drop_nil, List.take_succ_cons, List.take_zero, List.take_nil, List.contains_cons, List.contains_nil, Bool.or_false, Bool.or_true, Bool.true_or, Bool.false_or, Bool.and_true, Bool.and_false, Bool.not_true, Bool.not_false, beq_self_eq_true, Nat.reduceAdd, Nat.reduceSub, Nat.reduceLeDiff, Nat.reduceLT, Nat.reduceEqDiff, Nat.reduceBEq, Int.reduceToNat, ↓reduceIte, reduceIte, Bool.false_eq_true, ne_true_f, decide_eq_true_eq, and_self, and_true, true_and, Nat.zero_le, Option.map_some, Option.map_none, Option.bind_some, Int.reduceLT, Int.reduceLE, Int.reduceNeg, decide_true, decide_false, ixN_0, ixN_1, ixN_2, ixN_3, ixN_m1, atI_1, atI_2, atI_3, eq_self, Option.some.injEq, atI_0, Nat.zero_add, Nat.add_zero, f_bagB, hc, hl2, List.length_map, bagMul, pow10_18, m1, m2, m3]
theorem bagB_2 (c : Int) (ns : List Int) (a : Nat) (h : AH) (hc : 5081 * (a : Int) + 3 = c) (hl2 : ¬ (a : Int) < (ns.length : Int)) : f_bagB [.fz (ns.map .int), .int a] h = .ok (.ref h.n) (h.new (bagAO 1000000000000000003 c a)) := by
  have m1 : ∀ h, pMul h (.int 5081) (.int a) = some (.int (5081 * (a : Int))) := fun h => pMul_ok (.inl (by decide))
  have m2 : ∀ h, pMul h (.int 40009) (.int a) = some (.int (40009 * (a : Int))) := fun h => pMul_ok (.inl (by decide))
  have m3 : ∀ h i, pMod h (.int i) (.int 1000000000000000003) = some (.int (i % 1000000000000000003)) := fun h i => pMod_ok (by decide)
  unfold bagAO
  simp (disch := omega) only [fnM, eVar, eC, eBin, eUn, aNil, aCons, eTup, eLst, eLstN, eFn, eIf, eFld, eCall, eMeth, eMake, insOf, tst, tstB, MP.tAnd, MP.tOr, MP.tNot, eAnd, eOr, eNot, eChain, truth, optR, Res.bind, Res.bindS, sNil, sSeq, sExp, sRet, sRetN, sIf, sAsg, sSet, sPar, MP.sFld, MP.sFldAug, sFor, nxO, gNm, gFld, gIx, setIx, setFld, gsNil, gsCons, gTp, gLs, MP.iRng1, MP.iRng2, iSeq, iLst, MP.iTup, seqL, seqM, seqT, seqX, eIsi, tyName, isi_ii, isi_ib, isi_bi, isi_bb, isi_ni, isi_si, isi_ss, isi_is, isi_tt, isi_ti, isi_li, pAdd, pSub, pDiv_ok, pNeg, pLt, pLe, pGt, pGe, pEq, pNe, pEqB, sEq, pIs, pIsNot, isNon, pIx, fAbs, fMax2, fMin2, fInt, fLen, gSel, pick, AH.put_g, AH.put_n, AH.new_g, AH.new_n, AH.put_same, AH.new_same, AH.put_put, AH.new_put, List.length_cons, List.length_nil, List.map_cons, List.map_nil, List.cons_append, List.nil_append, List.append_nil, List.replicate, List.getElem?_cons_zero, List.getElem?_cons_succ, List.getElem?_nil, List.set_cons_zero, List.set_cons_succ, List.flatMap_cons, List.flatMap_nil, List.drop_zero, List.drop_succ_cons, List.drop_nil, List.take_succ_cons, List.take_zero, List.take_nil, List.contains_cons, List.contains_nil, Bool.or_false, Bool.or_true, Bool.true_or, Bool.false_or, Bool.and_true, Bool.and_false, Bool.not_true, Bool.not_false, beq_self_eq_true, Nat.reduceAdd, Nat.reduceSub, Nat.reduceLeDiff, Nat.reduceLT, Nat.reduceEqDiff, Nat.reduceBEq, Int.reduceToNat, ↓reduceIte, reduceIte, Bool.false_eq_true, ne_true_f, decide_eq_true_eq, and_self, and_true, true_and, Nat.zero_le, Option.map_some, Option.map_none, Option.bind_some, Int.reduceLT, Int.reduceLE, Int.reduceNeg, decide_true, decide_false, ixN_0, ixN_1, ixN_2, ixN_3, ixN_m1, atI_1, atI_2, atI_3, eq_self, Option.some.injEq, atI_0, Nat.zero_add, Nat.add_zero, f_bagB, hc, hl2, List.length_map, bagMul, pow10_18, m1, m2, m3]
theorem bagB_ok (ns : List Int) (a : Nat) (ha : a < 100000) (h : AH) : ∃ o, f_bagB [.fz (ns.map .int), .int a] h = .ok (.ref h.n) (h.new o) ∧ Bag (h.new o) h.n 0 := by
  by_cases hl : a < ns.length
  · have hg : (ns.map D.int)[a]? = some (.int ns[a]) := by simp [List.getElem?_eq_getElem hl]
    exact ⟨_, bagB_1 _ ns a h (atI_nat hg) (by omega), bag_mem ha (by decide) (by decide)⟩
  · exact ⟨_, bagB_2 _ ns a h rfl (by omega), bag_mem ha (by decide) (by decide)⟩
end MP
set_option Elab.async false
set_option linter.all false
set_option maxRecDepth 100000
/-! mirrors: what repr can tell -/
namespace MP
open PySem PySem.Spec L2
/-- repr tells it: a text of so many signs at most, nested so deep at most -/
structure Sh (p : PyData) (n d : Nat) : Prop where
  s : p.showable = true
  k : p.hasDict = false
  l : p.shown.length ≤ n
  d : p.depth ≤ d
structure ShL (p : List PyData) (n d : Nat) : Prop where
  s : PyData.showableAll p = true
  k : PyData.hasDictAll p = false
  l : ((PyData.shownAll p).map (·.length)).sum + 2 * p.length ≤ n
  d : PyData.depthAll p ≤ d
theorem Sh.mono {p : PyData} {n d n' d' : Nat} (s : Sh p n d) (h : n ≤ n') (e : d ≤ d') : Sh p n' d' := ⟨s.s, s.k, Nat.le_trans s.l h, Nat.le_trans s.d e⟩
theorem ShL.mono {p : List PyData} {n d n' d' : Nat} (s : ShL p n d) (h : n ≤ n') (e : d ≤ d') : ShL p n' d' := ⟨s.s, s.k, Nat.le_trans s.l h, Nat.le_trans s.d e⟩
theorem Sh.int {i : Int} (h : i.natAbs < 100000000000000000000) : Sh (.int i) 21 0 := by
  refine ⟨?_, by simp [PyData.hasDict], ?_, by simp [PyData.depth]⟩
  · simp only [PyData.showable, decide_eq_true_eq]
    have : i.natAbs.log2 < 67 := PySem.Flt.log2_lt_of (by decide) (Nat.lt_trans h (by decide))
    omega
  · have e := int_text_length_le10 (a := i) (k := 20) (by decide) (Nat.lt_of_lt_of_le h (by decide))
    show (Str.ofString (toString i)).length ≤ 21
    rw [ofString_length]
    omega
theorem Sh.non : Sh .none 4 0 := ⟨by simp [PyData.showable], by simp [PyData.hasDict], by decide, by simp [PyData.depth]⟩
theorem Sh.bl (b : Bool) : Sh (.bool b) 5 0 := ⟨by simp [PyData.showable], by simp [PyData.hasDict], by cases b <;> decide, by simp [PyData.depth]⟩
theorem Sh.str {x : Str} {n : Nat} (h : ∀ c ∈ x.cps.toList, c < 16 ^ 8) (hn : x.length ≤ n) : Sh (.str x) (10 * n + 2) 0 := by
  refine ⟨by simp [PyData.showable], by simp [PyData.hasDict], ?_, by simp [PyData.depth]⟩
  have e := StrLaws.reprText_len x h
  simp only [PyData.shown]
  have : x.length = x.cps.size := rfl
  omega
theorem ShL.nil : ShL [] 0 0 := ⟨by simp [PyData.showableAll], by simp [PyData.hasDictAll], by simp [PyData.shownAll], by simp [PyData.depthAll]⟩
theorem ShL.cons {p : PyData} {ps : List PyData} {n d m e : Nat} (a : Sh p n d) (b : ShL ps m e) : ShL (p :: ps) (n + 2 + m) (max d e) := by
  refine ⟨by simp [PyData.showableAll, a.s, b.s], by simp [PyData.hasDictAll, a.k, b.k], ?_, ?_⟩
  · have := a.l
    have := b.l
    simp only [PyData.shownAll, List.map_cons, List.sum_cons, List.length_cons]
    omega
  · have := a.d
    have := b.d
    simp only [PyData.depthAll]
    omega
theorem ShL.all {ps : List PyData} {n d : Nat} (h : ∀ p ∈ ps, Sh p n d) : ShL ps ((n + 2) * ps.length) d := by
  induction ps with
  | nil => exact ShL.nil.mono (by omega) (by omega)
  | cons p ps ih =>
    exact (ShL.cons (h p List.mem_cons_self) (ih fun q hq => h q (List.mem_cons_of_mem _ hq))).mono (by rw [List.length_cons, Nat.mul_add]; omega) (by omega)
theorem Sh.lst {ps : List PyData} {n d : Nat} (a : ShL ps n d) : Sh (.list ps) (n + 3) (d + 1) := by
  refine ⟨by simp [PyData.showable, a.s], by simp [PyData.hasDict, a.k], ?_, ?_⟩
  · have := a.l
    have h2 := listText_len_le (PyData.shownAll ps)
    have h3 := PyData.shownAll_length ps
    simp only [PyData.shown]
    omega
  · have := a.d
    simp only [PyData.depth]
    omega
theorem Sh.tup {ps : List PyData} {n d : Nat} (a : ShL ps n d) : Sh (.tuple ps) (n + 3) (d + 1) := by
  refine ⟨by simp [PyData.showable, a.s], by simp [PyData.hasDict, a.k], ?_, ?_⟩
  · have := a.l
    have h2 := tupleText_len_le (PyData.shownAll ps)
    have h3 := PyData.shownAll_length ps
    simp only [PyData.shown]
    omega
  · have := a.d
    simp only [PyData.depth]
    omega
theorem repr_of {h : AH} {x : D} {p : PyData} {n d : Nat} (e : pd h x = some p) (a : Sh p n d) (hn : n ≤ 100000) (hd : d ≤ 20) : fRepr h [x] = some (.str p.shown) := by
  have := a.l
  have := a.d
  unfold fRepr
  simp only [e]
  rw [if_pos ⟨a.s, a.k, by omega, by omega⟩]
theorem eqb_self {h : AH} {x : D} {p : PyData} (e0 : sEq x x = none) (e : pd h x = some p) (a : SeqAt.shaped p = true) : pEqB h x x = some true := by
  unfold pEqB
  rw [e0]
  simp only [e]
  rw [if_pos ⟨a, a⟩]
  have hl : p.canLay0 = true := by
    unfold SeqAt.shaped at a
    exact (Bool.and_eq_true_iff.mp a).1
  rw [SeqAt.eqv_refl p hl]
theorem eqb_int (h : AH) (i j : Int) : pEqB h (.int i) (.int j) = some (i == j) := rfl
theorem eqb_str (h : AH) (i j : Str) : pEqB h (.str i) (.str j) = some (decide (i = j)) := rfl
theorem eqb_bl (h : AH) (i j : Bool) : pEqB h (.bl i) (.bl j) = some (i == j) := rfl
theorem eqb_ints2 (h : AH) (a b : Int) : pEqB h (.lst [.int a, .int b]) (.lst [.int a, .int b]) = some true :=
  eqb_self rfl (p := .list [.int a, .int b]) rfl (by simp [SeqAt.shaped, PyData.canLay0, PyData.canLayAll0, PyData.depth, PyData.depthAll])
theorem menu4 {α : Type} (a b c d : α) {r : Int} (h0 : 0 ≤ r) (h1 : r < 4) : ∃ x, atI [a, b, c, d] r = some x ∧ (x = a ∨ x = b ∨ x = c ∨ x = d) := by
  have h : r = 0 ∨ r = 1 ∨ r = 2 ∨ r = 3 := by omega
  rcases h with h | h | h | h <;> rw [h]
  · exact ⟨_, atI_0 .., by simp⟩
  · exact ⟨_, atI_1 .., by simp⟩
  · exact ⟨_, atI_2 .., by simp⟩
  · exact ⟨_, atI_3 .., by simp⟩
theorem menu3 {α : Type} (a b c : α) {r : Int} (h0 : 0 ≤ r) (h1 : r < 3) : ∃ x, atI [a, b, c] r = some x ∧ (x = a ∨ x = b ∨ x = c) := by
  have h : r = 0 ∨ r = 1 ∨ r = 2 := by omega
  rcases h with h | h | h <;> rw [h]
  · exact ⟨_, atI_0 .., by simp⟩
  · exact ⟨_, atI_1 .., by simp⟩
  · exact ⟨_, atI_2 .., by simp⟩
theorem menu2 {α : Type} (a b : α) {r : Int} (h0 : 0 ≤ r) (h1 : r < 2) : ∃ x, atI [a, b] r = some x ∧ (x = a ∨ x = b) := by
  have h : r = 0 ∨ r = 1 := by omega
  rcases h with h | h <;> rw [h]
  · exact ⟨_, atI_0 .., by simp⟩
  · exact ⟨_, atI_1 .., by simp⟩
theorem menu4i (a b c d : Int) {r : Int} (h0 : 0 ≤ r) (h1 : r < 4) : ∃ x : Int, atI [D.int a, .int b, .int c, .int d] r = some (.int x) ∧ (x = a ∨ x = b ∨ x = c ∨ x = d) := by
  obtain ⟨x, e, z⟩ := menu4 (D.int a) (.int b) (.int c) (.int d) h0 h1
  rcases z with rfl | rfl | rfl | rfl
  · exact ⟨_, e, by simp⟩
  · exact ⟨_, e, by simp⟩
  · exact ⟨_, e, by simp⟩
  · exact ⟨_, e, by simp⟩
theorem menu3i (a b c : Int) {r : Int} (h0 : 0 ≤ r) (h1 : r < 3) : ∃ x : Int, atI [D.int a, .int b, .int c] r = some (.int x) ∧ (x = a ∨ x = b ∨ x = c) := by
  obtain ⟨x, e, z⟩ := menu3 (D.int a) (.int b) (.int c) h0 h1
  rcases z with rfl | rfl | rfl
  · exact ⟨_, e, by simp⟩
  · exact ⟨_, e, by simp⟩
  · exact ⟨_, e, by simp⟩
theorem rngG {n : Int} (h : 0 ≤ n) (h2 : n < 1000000) : -2 ^ 62 ≤ n ∧ n < 2 ^ 62 := by omega
theorem pow10_10 (h : AH) : pPow h (.int 10) (.int 10) = some (.int 10000000000) := by
  rw [pPow_ok (by decide) (by decide)]
  rfl
theorem pow10_11 (h : AH) : pPow h (.int 10) (.int 11) = some (.int 100000000000) := by
  rw [pPow_ok (by decide) (by decide)]
  rfl
theorem pow10_6 (h : AH) : pPow h (.int 10) (.int 6) = some (.int 1000000) := by
  rw [pPow_ok (by decide) (by decide)]
  rfl
end MP
set_option Elab.async false
set_option linter.all false
set_option maxRecDepth 100000
set_option maxHeartbeats 4000000
/-! mirrors: own exceptions that bear fields, over any of Python's: made, raised, caught -/
namespace MP
open PySem PySem.Spec L2
open PyProof.Rows hiding St

/-- what is to be known of an own exception class at C over the built-in B -/
structure Xk (K : PySem.W.Frag) (C : Addr) (newId : String) (bmB : List Value) : Prop where
  ini : PySem.W.excInitIn K C bmB newId = true
  ovr : PySem.W.excOver K C bmB = true
  sa : PySem.W.findIn K (.ref C) "__setattr__" = some (some (.builtin "object.__setattr__"))
  dct : PySem.W.hasDictIn K C = true
  exC : PySem.W.subIn K (.ref C) (.type "BaseException") = some true
  tyC : PySem.W.typeIn K (.ref C) = some (.type "type")
  kC : PySem.W.keepIn K (.ref C) = true

section
variable {X : Cx} {pins : List (Addr × Obj)} {σ : L2.St} {H : Hp} {s : Shared} {a C dx : Addr} {f : Str} {y : V} {u : Value} {fs : List (Str × V)} {Q : Unit → Shared → Prop} {E : Value → Shared → Prop} {A : Around}
  {B newId : String} {bmB : List Value}
/-- the first field -/
theorem st_first (SF : StoreFacts B bmB "object.__setattr__" "object") (Z : Xk X.K C newId bmB) (I : Inv X pins σ H s) (e : H a = some (exo a C none)) (ht : PySem.W.takerIn X.K C f = some none) (ry : RelV y u)
    (h : ∀ d s', H d = none → d ≠ a → Inv X pins σ (upd (upd H d (exd d [(f, y)])) a (exo a C (some d))) s' → Q () s') : wpAny (model X.prog X.w) A (setAttr (.ref a) f u) Q E s := by
  obtain ⟨t1, ho⟩ := exo_at I.hok e
  obtain ⟨cd, hc, hd⟩ := PySem.W.any_some Z.dct
  obtain ⟨hp, g, dr, t, os⟩ := s
  refine PySem.W.set_plain I.kIn (ox := PySem.W.excObj C t1 none .none) (od := none) ⟨ho, rfl, rfl, trivial⟩ Z.sa ?_
  refine PySem.W.osa_openX (od := none) SF I.kIn ⟨ho, rfl, rfl, trivial⟩ Z.ovr ht fun b => ?_
  dsimp only
  unfold Builtin.ObjectAttr.storeInOwnDict Builtin.ObjectAttr.ownDictForStores
  refine wpAny_bind (wpAny_pure (wpAny_bind (PySem.W.instanceDict_exc ho (PySem.W.looks_clsIn I.kIn hc) hd ?_)))
  dsimp only
  have hxs : a ≠ hp.objs.size := Nat.ne_of_lt (Heap.lt_size ho)
  have ho1 : (hp.push (PySem.W.dictOf [] 0)).get? a = some (PySem.W.excObj C t1 none .none) := Heap.get?_push_of_some _ ho
  refine PySem.HandSPX.store_in_new ?_ fun h' tk' hn hs => ?_
  · exact ⟨_, #[], _, (Heap.get?_update_ne _ _ _ _ hxs.symm).trans (Heap.get?_push_at rfl rfl), rfl, fun e he => absurd he (by simp), fun _ => rfl⟩
  have hnd : H hp.objs.size = none := I.hok.fresh (Nat.le_refl _)
  have hna : ∀ {b : Addr}, H b = none → b ≠ a := fun {b} n z => by rw [z, e] at n; cases n
  have hxx : h'.get? a = some (PySem.W.excObj C t1 (some hp.objs.size) .none) := (hs.2 a hxs).trans (Heap.get?_update_self _ ho1 rfl)
  have keep : ∀ b o, b ≠ a → hp.get? b = some o → h'.get? b = some o := fun b o hb q =>
    (hs.2 b (Nat.ne_of_lt (Heap.lt_size q))).trans ((Heap.get?_update_ne _ _ _ _ hb).trans (Heap.get?_push_of_some _ q))
  have nd : ∀ {b : Addr} {o : Obj}, hp.get? b = some o → b ≠ hp.objs.size := fun {b o} q => Nat.ne_of_lt (Heap.lt_size q)
  refine h hp.objs.size _ hnd hxs.symm (I.un (t' := tk') {
    keep := fun b o q n _ _ => keep b o (hna n) q
    slot := fun b o q n _ _ => ⟨o.slots, keep b o (hna n) q⟩
    free := fun b o q n _ => (upd_ne (hna n)).trans ((upd_ne (nd q)).trans n)
    there := fun b o q _ => if z : b = a then ⟨_, z ▸ hxx⟩ else ⟨o, keep b o z q⟩
    tups := fun b xs q => (upd_ne (at_ne e q exo_tup)).trans ((upd_ne (ne_of_none q hnd)).trans q)
    frzs := fun b o v q => (upd_ne (at_ne e q exo_frz)).trans ((upd_ne (ne_of_none q hnd)).trans q)
    tbls := fun b ps q => ⟨#[], by rw [upd_ne (at_ne e q exo_tbl), upd_ne (ne_of_none q hnd), q]; simp⟩ } fun b o q => ?_)
  by_cases hb : b = a
  · rw [hb, upd_same] at q
    cases q
    rw [hb]
    exact exo_ok hxx
  rw [upd_ne hb] at q
  by_cases hbd : b = hp.objs.size
  · rw [hbd, upd_same] at q
    cases q
    rw [hbd]
    exact exd_ok hn (relO_put (fs := []) ry fun _ => True.intro)
  rw [upd_ne hbd] at q
  refine (I.hok b o q).stay (fun c v hc z => keep c v ?_ z) (fun c hc => ?_) fun c xs hc => ?_
  · rcases hc with hc | hc
    · exact hc ▸ hb
    · exact at_ne e hc exo_own
  · rw [upd_ne (at_ne e hc exo_own), upd_ne (ne_of_none hc hnd)]
    exact hc
  · rw [upd_ne (at_ne e hc exo_tup), upd_ne (ne_of_none hc hnd)]
    exact hc
/-- a further field -/
theorem st_next (SF : StoreFacts B bmB "object.__setattr__" "object") (Z : Xk X.K C newId bmB) (I : Inv X pins σ H s) (e : H a = some (exo a C (some dx))) (ed : H dx = some (exd dx fs)) (hl : fs.length ≤ 900) (ht : PySem.W.takerIn X.K C f = some none)
    (ry : RelV y u) (h : ∀ s', Inv X pins σ (upd H dx (exd dx ((f, y) :: fs))) s' → Q () s') : wpAny (model X.prog X.w) A (setAttr (.ref a) f u) Q E s := by
  obtain ⟨t1, ho⟩ := exo_at I.hok e
  obtain ⟨mA, hns, rel⟩ := exd_at I.hok ed
  have hw := within_of rel
  obtain ⟨cd, hc, hd⟩ := PySem.W.any_some Z.dct
  obtain ⟨hp, g, dr, t, os⟩ := s
  obtain ⟨oD, _, _, hoD, _, _⟩ := hns.count hw
  have J : PySem.W.InstAt hp a (PySem.W.excObj C t1 (some dx) .none) C (some oD) := ⟨ho, rfl, rfl, hoD⟩
  refine PySem.W.set_plain I.kIn J Z.sa ?_
  refine PySem.W.osa_openX SF I.kIn J Z.ovr ht fun b => ?_
  dsimp only
  unfold Builtin.ObjectAttr.storeInOwnDict Builtin.ObjectAttr.ownDictForStores
  unfold instanceDict
  refine wpAny_bind (wpAny_pure (wpAny_bind (wpAny_bind (wpAny_loadPart ho ?_))))
  dsimp only
  refine wpAny_bind ((PySem.W.looks_clsIn I.kIn hc).at ?_)
  rw [hd]
  refine wpAny_pure (a := some dx) ?_
  dsimp only
  refine PySem.OEX.store_in_old hns hw (by rw [List.length_map]; omega) fun h' tk' hn hs => ?_
  have there : ∃ o, h'.get? dx = some o := by
    obtain ⟨o, _, _, z, _⟩ := hn
    exact ⟨o, z⟩
  exact h _ (I.write (t' := tk') (x := dx) (e := dx) (o := exd dx ((f, y) :: fs)) (by rw [ed]; exact True.intro) (.inl rfl) (fun b o hb q => (hs.2 b hb).trans q) there (exd_ok hn (relO_put ry rel)))
end

/-- self.f = e, self the exception under way of the class C -/
def tXst (C : Addr) (f : Str) (to te : TE) : TS := fun D σ H => te σ H fun y H1 => to σ H1 fun x H2 => ∃ a, x = .ref a ∧
  ((H2 a = some (exo a C none) ∧ ∀ d, H2 d = none → d ≠ a → D.nx σ (upd (upd H2 d (exd d [(f, y)])) a (exo a C (some d)))) ∨
    ∃ dx fs, H2 a = some (exo a C (some dx)) ∧ H2 dx = some (exd dx fs) ∧ fs.length ≤ 900 ∧ D.nx σ (upd H2 dx (exd dx ((f, y) :: fs))))
theorem ps_xst {X : Cx} {B newId : String} {bmB : List Value} {C : Addr} {f : Str} {o e : Expr} {to te : TE} {p' pos : Pos} (SF : StoreFacts B bmB "object.__setattr__" "object") (Z : Xk X.K C newId bmB) (ht : PySem.W.takerIn X.K C f = some none)
    (ho : PE X o to) (he : PE X e te) (hs : swapsWith e (some (.Attribute o f p')) pos.line X.env = pure false := by rfl) : PS X (.Assign [.Attribute o f p'] e pos) (tXst C f to te) :=
  ⟨fun pins s σ H D I h => plainObj_wpAny_Assign_Attribute (thn (he.run pins s σ H _ I h) fun _ s1 ⟨y, H1, I1, r1, q1⟩ => thn (ho.run pins s1 σ H1 _ I1 q1) fun u s2 ⟨x, H2, I2, r2, a, ex, q⟩ => by
    subst ex
    obtain rfl : u = Value.ref a := r2
    rcases q with ⟨ea, q⟩ | ⟨dx, fs, ea, ed, hl, q⟩
    · exact st_first SF Z I2 ea ht r1 fun d s' n ne J => ⟨σ, _, J, q d n ne⟩
    · exact st_next SF Z I2 ea ed hl ht r1 fun s' J => ⟨σ, _, J, q⟩) hs⟩
/-- what such a class's __init__ does: its fields fs are set to the arguments, one by one -/
def spXi (C : Addr) (fs : List Str) : Sp := fun vs H Q _ => ∃ a ws, vs = .ref a :: ws ∧ ws.length = fs.length ∧ H a = some (exo a C none) ∧
  ∀ d, H d = none → d ≠ a → Q .non (upd (upd H d (exd d (fs.zip ws).reverse)) a (exo a C (some d)))
section
variable {P : Program} {w : World} {K : PySem.W.Frag} {mg : Str → Option Value} {base : Heap} {B newId : String} {bmB : List Value} {C f : Addr} {fd : FuncData} {params : Arguments} {scope : Scope} {dvs : List V} {kws : List (Str × V)} {a1 a2 a3 a4 b1 b2 b3 b4 : Pos} {S P1 P2 f1 f2 : Str} {x ql : Str}
theorem init1_ok (SF : StoreFacts B bmB "object.__setattr__" "object") (Z : Xk K C newId bmB) (h1 : PySem.W.takerIn K C f1 = some none)
    (F : FunD K x ql params [.Assign [.Attribute (.Name S a1) f1 a2] (.Name P1 a3) a4] scope dvs kws f fd) (sc : FnScope [S, P1] [S, P1] scope) (vS : Vis scope S) (v1 : Vis scope P1)
    (dS : (S == ("__debug__" : Str)) = false := by decide) (cS : (S == ("__classdict__" : Str)) = false := by decide) (d1 : (P1 == ("__debug__" : Str)) = false := by decide) (c1 : (P1 == ("__classdict__" : Str)) = false := by decide)
    (hs : ∀ env, swapsWith (.Name P1 a3) (some (.Attribute (.Name S a1) f1 a2)) a4.line env = pure false := by intro _; rfl) :
    FnOk P w K mg base (L2.CX P w) 1 f fd [S, P1] (spXi C [f1]) :=
  F.ok sc (fun vs H Q E ⟨a, ws, e1, e2, _⟩ => by rw [e1, List.length_cons, e2]; rfl) fun cdv A outer s H vs Q E hr ⟨a, ws, e1, e2, ea, q⟩ => by
    subst e1
    match ws, e2 with
    | [y], _ =>
      refine ⟨_, pss_one (ps_xst (X := cxOf (L2.CX P w) P w K mg base [S, P1] ql scope f cdv A outer s H E) SF Z h1 (pe_var (i := 0) rfl vS dS cS) (pe_var (i := 1) rfl v1 d1 c1) (hs _)), ?_⟩
      exact ⟨y, rfl, .ref a, rfl, a, rfl, .inl ⟨ea, fun d n ne => q d n ne⟩⟩
theorem init2_ok (SF : StoreFacts B bmB "object.__setattr__" "object") (Z : Xk K C newId bmB) (h1 : PySem.W.takerIn K C f1 = some none) (h2 : PySem.W.takerIn K C f2 = some none)
    (F : FunD K x ql params [.Assign [.Attribute (.Name S a1) f1 a2] (.Name P1 a3) a4, .Assign [.Attribute (.Name S b1) f2 b2] (.Name P2 b3) b4] scope dvs kws f fd) (sc : FnScope [S, P1, P2] [S, P1, P2] scope) (vS : Vis scope S) (v1 : Vis scope P1) (v2 : Vis scope P2)
    (dS : (S == ("__debug__" : Str)) = false := by decide) (cS : (S == ("__classdict__" : Str)) = false := by decide) (d1 : (P1 == ("__debug__" : Str)) = false := by decide) (c1 : (P1 == ("__classdict__" : Str)) = false := by decide)
    (d2 : (P2 == ("__debug__" : Str)) = false := by decide) (c2 : (P2 == ("__classdict__" : Str)) = false := by decide)
    (hs : ∀ env, swapsWith (.Name P1 a3) (some (.Attribute (.Name S a1) f1 a2)) a4.line env = pure false := by intro _; rfl)
    (hs2 : ∀ env, swapsWith (.Name P2 b3) (some (.Attribute (.Name S b1) f2 b2)) b4.line env = pure false := by intro _; rfl) :
    FnOk P w K mg base (L2.CX P w) 1 f fd [S, P1, P2] (spXi C [f1, f2]) :=
  F.ok sc (fun vs H Q E ⟨a, ws, e1, e2, _⟩ => by rw [e1, List.length_cons, e2]; rfl) fun cdv A outer s H vs Q E hr ⟨a, ws, e1, e2, ea, q⟩ => by
    subst e1
    match ws, e2 with
    | [y, z], _ =>
      refine ⟨_, pss_cons (ps_xst (X := cxOf (L2.CX P w) P w K mg base [S, P1, P2] ql scope f cdv A outer s H E) SF Z h1 (pe_var (i := 0) rfl vS dS cS) (pe_var (i := 1) rfl v1 d1 c1) (hs _)) (pss_one
        (ps_xst (X := cxOf (L2.CX P w) P w K mg base [S, P1, P2] ql scope f cdv A outer s H E) SF Z h2 (pe_var (i := 0) rfl vS dS cS) (pe_var (i := 2) rfl v2 d2 c2) (hs2 _))), ?_⟩
      refine ⟨y, rfl, .ref a, rfl, a, rfl, .inl ⟨ea, fun d n ne => ?_⟩⟩
      refine ⟨z, rfl, .ref a, rfl, a, rfl, .inr ⟨d, [(f1, y)], upd_same, ?_, by show 1 ≤ 900; decide, ?_⟩⟩
      · rw [upd_ne ne, upd_same]
      · have e : upd (upd (upd H d (exd d [(f1, y)])) a (exo a C (some d))) d (exd d [(f2, z), (f1, y)]) = upd (upd H d (exd d [(f2, z), (f1, y)])) a (exo a C (some d)) := by
          funext b
          by_cases hb : b = d
          · rw [hb, upd_same, upd_ne ne, upd_same]
          · rw [upd_ne hb]
            by_cases ha : b = a
            · rw [ha, upd_same, upd_same]
            · rw [upd_ne ha, upd_ne ha, upd_ne hb, upd_ne hb]
        rw [e]
        exact q d n ne
end

/-- C(e, ..): the exception with its fields -/
def tXmk (C : Addr) (fs : List Str) (ta : TA) : L2.St → Hp → XK → Prop := fun σ H Q => ta σ H fun vs H1 => vs.length = fs.length ∧ ∀ d, H1 d = none → Q (.ref C) (some d) (upd H1 d (.xd (fs.zip vs).reverse))
section
variable {X : Cx} {B newId initId : String} {bmB : List Value} {C fI : Addr} {k : Nat} {fd : FuncData} {ps fs : List Str} {x : Str} {p pos : Pos} {e : Expr} {es : List Expr} {ta : TA}
theorem pmk_x (FB : ExcBaseFacts B newId initId bmB) (Z : Xk X.K C newId bmB) (iC : PySem.W.findIn X.K (.ref C) "__init__" = some (some (.ref fI))) (tI : PySem.W.typeIn X.K (.ref fI) = some (.type "function"))
    (F1 : FnOk X.prog X.w X.K X.mg X.base (L2.CX X.prog X.w) k fI fd ps (spXi C fs)) (hr : Room (k + 1) X.A) (hps : ps.length = fs.length + 1) (hfs : fs.length ≤ 900) (hb : Binds X.K fd ps []) (hg : Gl X x) (hm : X.mg x = some (.ref C)) (ha : PA X (e :: es) ta)
    (hdb : (x == ("__debug__" : Str)) = false := by decide) (he : starEach (e :: es) X.env = (false, eval e X.env) :: starEach es X.env := by rfl) (hpl : (backTo pos (starEach es X.env)).any (·.1) = false := by rfl) :
    PMk X (.Call (.Name x p) (e :: es) [] pos) (tXmk C fs ta) := fun pins s σ H Q I h => by
  refine wpAny_Call_Name_kw (ld_glob I hg hm ?_ hdb)
  refine PySem.W.callWith_K (h₀ := X.base) I.ok.mod.kin Z.kC (thn (ha.run pos pins s σ H _ I h) fun us s1 ⟨vs, H1, I1, r1, hl, q1⟩ => ⟨I1.kIn, ?_⟩) he hpl
  obtain ⟨nm, N', qn, bs, bm, hdct, sn, sub, ab, col, dd, k0, k1, k2, k3, k5, hC, hT⟩ := PySem.W.excInit_of I1.kIn Z.ini
  show wpAny _ _ (call (.ref C) us) _ _ _
  obtain ⟨hp, g, dr, tk, os⟩ := s1
  have hsz : hp.objs.size ≤ hp.objs.size + 1 := Nat.le_succ _
  have n1 : H1 (hp.objs.size + 1) = none := I1.hok.fresh hsz
  have grow : ∀ b o, hp.get? b = some o → ((hp.push (PySem.W.kdv_tup us)).push (PySem.HandSPX.excO C hp.objs.size)).get? b = some o := fun b o z => Heap.get?_push_of_some _ (Heap.get?_push_of_some _ z)
  have new : ((hp.push (PySem.W.kdv_tup us)).push (PySem.HandSPX.excO C hp.objs.size)).get? (hp.objs.size + 1) = some (PySem.HandSPX.excO C hp.objs.size) := by heap_get
  have I2 := I1.laid (t' := tk) (a := hp.objs.size + 1) (o := exo (hp.objs.size + 1) C none) (h' := (hp.push (PySem.W.kdv_tup us)).push (PySem.HandSPX.excO C hp.objs.size)) grow hsz (exo_ok new)
  have lus : us.length = fs.length := (Paired.length r1).symm.trans hl
  have sz : us.length ≤ sizeLine := by rw [lus, sizeLine_eq]; omega
  have r2 : Vals (V.ref (hp.objs.size + 1) :: vs) (Value.ref (hp.objs.size + 1) :: us) := .cons rfl r1
  have bnd := hb ⟨(hp.push (PySem.W.kdv_tup us)).push (PySem.HandSPX.excO C hp.objs.size), g, dr, tk, os⟩ (Value.ref (hp.objs.size + 1) :: us) I2.kIn (by rw [List.append_nil, List.length_cons, lus, hps])
  rw [List.append_nil] at bnd
  refine wpAny_call (PySem.HandSPX.call_own FB hT hC (PySem.W.looks_findIn I1.kIn iC) (fun self => PySem.W.bind_fn I1.kIn self tI) sz (codeAny_mono (F1.run _ X.stack _ _ ⟨Value.ref (hp.objs.size + 1) :: us, []⟩ _ _
    (fun v H2 => v = .non ∧ ∃ d, H1 d = none ∧ d ≠ hp.objs.size + 1 ∧ H2 = upd (upd (upd H1 (hp.objs.size + 1) (exo (hp.objs.size + 1) C none)) d (exd d (fs.zip vs).reverse)) (hp.objs.size + 1) (exo (hp.objs.size + 1) C (some d)))
    (fun _ _ _ => False) (hr.make C us []) (I2.env0.make C us []) bnd r2 ⟨_, vs, rfl, hl, upd_same, fun d n ne => ⟨rfl, d, by rw [upd_ne ne] at n; exact n, ne, rfl⟩⟩) fun r s' z => ?_))
  cases r with
  | error er =>
    obtain ⟨_, _, _, _, _, _, _, _, _, _, _, _, bad⟩ := z
    exact bad.elim
  | ok fl =>
    cases fl with
    | ret u =>
      obtain ⟨v, H2, os2, bare2, un2, hok2, rv, ev, d, hd1, dne, rfl⟩ := z
      subst ev
      obtain ⟨h2, g2, d2, t2, os'⟩ := s'
      have ed : upd (upd (upd H1 (hp.objs.size + 1) (exo (hp.objs.size + 1) C none)) d (exd d (fs.zip vs).reverse)) (hp.objs.size + 1) (exo (hp.objs.size + 1) C (some d)) d = some (exd d (fs.zip vs).reverse) := by rw [upd_ne dne, upd_same]
      have heq : upd (del (upd (upd (upd H1 (hp.objs.size + 1) (exo (hp.objs.size + 1) C none)) d (exd d (fs.zip vs).reverse)) (hp.objs.size + 1) (exo (hp.objs.size + 1) C (some d))) (hp.objs.size + 1)) d (.xd (fs.zip vs).reverse) = upd H1 d (.xd (fs.zip vs).reverse) := by
        funext b
        by_cases hb : b = d
        · rw [hb, upd_same, upd_same]
        · rw [upd_ne hb, upd_ne hb]
          by_cases hb2 : b = hp.objs.size + 1
          · rw [hb2, del_same, n1]
          · rw [del_ne hb2, upd_ne hb2, upd_ne hb, upd_ne hb2]
      exact ⟨rv, mk_end (raises_own Z.exC Z.tyC) I1 hsz grow un2 hok2 os2 bare2 upd_same ed hd1 (by rw [heq]; exact q1 d hd1)⟩
    | next => exact False.elim z
    | brk => exact False.elim z
    | cont => exact False.elim z
end
/-- raise C(e, ..) -/
def sRaise (cl : Nat) (fs : List Str) (a : MA) : MS := fun s h => (a s h).bindS s fun xs h1 => if xs.length = fs.length then .ex ⟨cl, (fs.zip xs).reverse⟩ s h1 else .st
/-- raise C('..'), C without own __init__ -/
def sRaise0 (cl : Nat) : MS := fun s h => .ex ⟨cl, []⟩ s h
theorem repKV_append {w : Wd} {c : Cf} {κ : Type} : ∀ {l1 l2 : List (κ × D)} {v1 v2 : List (κ × V)}, RepKV w c l1 v1 → RepKV w c l2 v2 → RepKV w c (l1 ++ l2) (v1 ++ v2)
  | [], l2, v1, v2, r1, r2 => by
    obtain rfl : v1 = [] := by simpa [RepKV] using r1
    exact r2
  | d :: l1, l2, v1, v2, r1, r2 => by
    simp only [RepKV] at r1
    obtain ⟨x, xs, rfl, a, b⟩ := r1
    exact ⟨x, _, rfl, a, repKV_append b r2⟩
theorem repKV_zip {w : Wd} {c : Cf} : ∀ {fs : List Str} {xs : List D} {vs : List V}, RepL w c xs vs → xs.length = fs.length → RepKV w c (fs.zip xs).reverse (fs.zip vs).reverse
  | [], xs, vs, r, h => by simp [RepKV]
  | f :: fs, [], vs, r, h => by simp at h
  | f :: fs, d :: xs, vs, r, h => by
    simp only [RepL] at r
    obtain ⟨x, ys, rfl, a, b⟩ := r
    simp only [List.zip_cons_cons, List.reverse_cons]
    exact repKV_append (repKV_zip b (by simpa using h)) ⟨x, [], rfl, a, rfl⟩
section
variable {X : Cx} {W : WX} {T : Nat → Addr} {B newId initId : String} {bmB : List Value} {fI : Addr} {k cl : Nat} {fd : FuncData} {ps fs : List Str} {x m : Str} {p p2 pos pos2 : Pos} {e : Expr} {es : List Expr} {ma : MA} {j : Nat}
theorem s_raise (hc : X.calm = true) (tk : Takes X W) (hm : PMk X e (tXmk (T cl) fs (tA (Wd.mk X.K T) W ma))) : PS X (.Raise (some e) none pos) (tS (Wd.mk X.K T) W (sRaise cl fs ma)) :=
  PSi (ps_raise hc tk hm) fun D σ H ⟨c, s, h, R, S, o⟩ => ⟨c, s, h, R, S, (by
    simp only [sRaise] at o
    cases q : ma s h with
    | ok xs h1 =>
      rw [q] at o
      refine fun c1 vs H1 R1 E1 r1 => ?_
      by_cases hl : xs.length = fs.length
      · have o' : OutS (Wd.mk X.K T) c H W D (.ex ⟨cl, (fs.zip xs).reverse⟩ s h1) := by simpa only [Res.bindS, if_pos hl] using o
        refine ⟨r1.len.symm.trans hl, fun d hd => ?_⟩
        obtain ⟨R2, E2⟩ := R1.lay (u := .xd (fs.zip vs).reverse) hd (fun a v z => (upd_ne (ne_of_none z hd)).trans z) upd_same
        exact o' _ _ _ σ _ R2 (E1.trans E2) ((S.ext E1).ext E2) ⟨rfl, .inr ⟨d, _, rfl, upd_same, R1.noidNew hd, repKV_zip (r1.ext E2) hl⟩⟩
      · have o' : OutS (Wd.mk X.K T) c H W D .st := by simpa only [Res.bindS, if_neg hl] using o
        exact o'.elim
    | ex e h' =>
      rw [q] at o
      exact fun c' cls dd H' R' E' r' => o c' cls dd σ H' R' E' (S.ext E') r'
    | st => rw [q] at o; exact o.elim)⟩
theorem s_raise0 (hc : X.calm = true) (tk : Takes X W) (F : ExcBaseFacts B newId initId bmB) (q : PySem.W.excIn X.K (T cl) bmB newId = true) (gC : X.mg x = some (.ref (T cl))) (kC : PySem.W.keepIn X.K (.ref (T cl)) = true)
    (h1 : PySem.W.subIn X.K (.ref (T cl)) (.type "BaseException") = some true) (h2 : PySem.W.typeIn X.K (.ref (T cl)) = some (.type "type")) (hg : Gl X x) (hdb : (x == ("__debug__" : Str)) = false := by decide) :
    PS X (.Raise (some (.Call (.Name x p) [.Constant (.str m) j p2] [] pos)) none pos2) (tS (Wd.mk X.K T) W (sRaise0 cl)) :=
  PSi (ps_raise hc tk (pmk_own F q gC kC (raises_own h1 h2) hg hdb)) fun D σ H ⟨c, s, h, R, S, o⟩ => o c _ none σ H R (.refl R.sub) S ⟨rfl, .inl rfl⟩
end
end MP
set_option Elab.async false
set_option linter.all false
set_option maxRecDepth 100000
set_option maxHeartbeats 4000000
/-! mirrors: further facts of the head; try -/
namespace MP
open PySem PySem.Spec L2
open PyProof.Rows hiding St

/-! ### the head's hook with one more Bool -/
def hookE (n : Nat) (fa : List He.Fa) (fn : List He.DefD) (ex : PySem.W.Frag → Bool) : PySem.W.Hook where
  α := He.AlD × Bool
  obs := fun s => (He.obsDG n fa fn s.heap.get?, ex (He.frG s.heap.get? (He.asD s.heap.get? n)))
  val := fun _ => (He.valD fn, true)
  says := fun _ h => ∃ K : PySem.W.Frag, K.In h ∧ He.SaysD fa fn K ∧ ex K = true
  of := fun _ _ e => ⟨_, He.frG_in, congrArg (fun z : He.AlD × Bool => z.1) e, congrArg (fun z : He.AlD × Bool => z.2) e⟩
  keeps := fun _ _ _ ⟨K, hK, c⟩ k => ⟨K, PySem.W.Frag.In.keeps hK k, c⟩
def obsE (n : Nat) (fa : List He.Fa) (fn : List He.DefD) (ex : PySem.W.Frag → Bool) (g : Addr → Option Obj) : He.AlD × Bool := (He.obsDG n fa fn g, ex (He.frG g (He.asD g n)))
theorem obsE_eq {n : Nat} {fa : List He.Fa} {fn : List He.DefD} {ex : PySem.W.Frag → Bool} {g : Addr → Option Obj} {s : Shared} (h : ∀ a, g a = s.heap.get? a) : obsE n fa fn ex g = (hookE n fa fn ex).obs s := by
  obtain rfl : g = s.heap.get? := funext h
  rfl
def tup0B (K : PySem.W.Frag) (a : Addr) : Bool := match K.lookup a with
  | some ⟨.type c, _, .seq its _, _⟩ => decide (c = "tuple") && its.isEmpty
  | _ => false
/-- what else is to be told -/
inductive XFa where
  | xk (x : Str) (newId : String) (bmB : List Value)
  | nox (x : Str) (newId : String) (bmB : List Value)
  | tk (x f : Str)
  | ini (x : Str)
  | tup0 (p : PySem.W.Frag → Addr)
def XFa.ok (K : PySem.W.Frag) : XFa → Bool
  | .xk x newId bmB => PySem.W.excInitIn K (He.ga K x) bmB newId && (PySem.W.excOver K (He.ga K x) bmB && (decide (PySem.W.findIn K (.ref (He.ga K x)) "__setattr__" = some (some (.builtin "object.__setattr__"))) && (PySem.W.hasDictIn K (He.ga K x) &&
      (decide (PySem.W.subIn K (.ref (He.ga K x)) (.type "BaseException") = some true) && (decide (PySem.W.typeIn K (.ref (He.ga K x)) = some (.type "type")) && PySem.W.keepIn K (.ref (He.ga K x)))))))
  | .nox x newId bmB => PySem.W.excIn K (He.ga K x) bmB newId && (PySem.W.keepIn K (.ref (He.ga K x)) && (decide (PySem.W.subIn K (.ref (He.ga K x)) (.type "BaseException") = some true) && decide (PySem.W.typeIn K (.ref (He.ga K x)) = some (.type "type"))))
  | .tk x f => decide (PySem.W.takerIn K (He.ga K x) f = some none)
  | .ini x => decide (PySem.W.findIn K (.ref (He.ga K x)) "__init__" = some (some (.ref (He.fAd K (x, some "__init__"))))) && decide (PySem.W.typeIn K (.ref (He.fAd K (x, some "__init__"))) = some (.type "function"))
  | .tup0 p => tup0B K (p K)
def xAll (xs : List XFa) (K : PySem.W.Frag) : Bool := xs.all fun f => f.ok K
section
variable {K : PySem.W.Frag} {x f : Str} {newId : String} {bmB : List Value} {xs : List XFa}
theorem xAll_at (h : xAll xs K = true) (i : Nat) {f : XFa} (e : xs[i]? = some f := by rfl) : f.ok K = true := List.all_eq_true.mp h f (List.mem_of_getElem? e)
theorem xk_ok (h : (XFa.xk x newId bmB).ok K = true) : Xk K (He.ga K x) newId bmB := by
  simp only [XFa.ok, Bool.and_eq_true, decide_eq_true_eq] at h
  obtain ⟨h1, h2, h3, h4, h5, h6, h7⟩ := h
  exact ⟨h1, h2, h3, h4, h5, h6, h7⟩
theorem tk_ok (h : (XFa.tk x f).ok K = true) : PySem.W.takerIn K (He.ga K x) f = some none := of_decide_eq_true h
theorem ini_ok1 (h : (XFa.ini x).ok K = true) : PySem.W.findIn K (.ref (He.ga K x)) "__init__" = some (some (.ref (He.fAd K (x, some "__init__")))) := of_decide_eq_true (Bool.and_eq_true_iff.mp h).1
theorem ini_ok2 (h : (XFa.ini x).ok K = true) : PySem.W.typeIn K (.ref (He.fAd K (x, some "__init__"))) = some (.type "function") := of_decide_eq_true (Bool.and_eq_true_iff.mp h).2
structure Nox (K : PySem.W.Frag) (C : Addr) (newId : String) (bmB : List Value) : Prop where
  q : PySem.W.excIn K C bmB newId = true
  kC : PySem.W.keepIn K (.ref C) = true
  h1 : PySem.W.subIn K (.ref C) (.type "BaseException") = some true
  h2 : PySem.W.typeIn K (.ref C) = some (.type "type")
theorem nox_ok (h : (XFa.nox x newId bmB).ok K = true) : Nox K (He.ga K x) newId bmB := by
  simp only [XFa.ok, Bool.and_eq_true, decide_eq_true_eq] at h
  obtain ⟨h1, h2, h3, h4⟩ := h
  exact ⟨h1, h2, h3, h4⟩
end

/-! ### try: body, except x: suite -/
/-- a suite lets nothing out -/
def noEx : RS → RS
  | .ex _ _ _ => .st
  | r => r
theorem OutS.noEx {w : Wd} {c : Cf} {H : Hp} {W W' : WX} {D : Ends} {r : RS} (o : OutS w c H W D (noEx r)) : OutS w c H W' D r := by
  cases r with
  | ex e s h => exact o.elim
  | nx s h => exact o
  | rt d h => exact o
  | bk s h => exact o
  | ct s h => exact o
  | st => exact o
theorem OutS.shift' {w : Wd} {c c' : Cf} {H H' : Hp} {W : WX} {D : Ends} {r : RS} (o : OutS w c H W D r) (e : Ext c H c' H') : OutS w c' H' W D r := OutS.shift e o
def sTryO (cs : List (Nat × Bool)) (b hnd : MS) : MS := fun s h => match b s h with
  | .ex e s' h' => match cs.lookup e.c with
    | some true => noEx (hnd s' h')
    | some false => .ex e s' h'
    | none => .st
  | r => r
section
variable {X : Cx} {W : WX} {T : Nat → Addr} {x : Str} {cx : Addr} {body suite : List Stmt} {b₀ : Stmt} {np pos pos' : Pos} {mb mh : MS} {cs : List (Nat × Bool)}
theorem lookup_fact {K : PySem.W.Frag} {c : Value} : ∀ {cs : List (Nat × Bool)} {k : Nat} {b : Bool}, (∀ p ∈ cs, PySem.W.exmOne K (.ref (T p.1)) c = some p.2) → cs.lookup k = some b → PySem.W.exmOne K (.ref (T k)) c = some b
  | (j, v) :: r, k, b, h, e => by
    by_cases z : k = j
    · subst z
      have e2 : v = b := by simpa [List.lookup] using e
      subst e2
      exact h (k, v) List.mem_cons_self
    · have e2 : r.lookup k = some b := by
        have : (k == j) = false := by simp [z]
        simpa [List.lookup, this] using e
      exact lookup_fact (fun p hp => h p (List.mem_cons_of_mem _ hp)) e2
theorem s_tryO (hs : X.stack = X.env :: X.outer) (hf : X.env.frame = some X.env.locals) (hc : Names X x (.ref cx)) (tk : Takes X W) (he : ∀ p ∈ cs, PySem.W.exmOne X.K (.ref (T p.1)) (.ref cx) = some p.2)
    (hb : ∀ (W' : WX) (pn : List (Addr × Obj)) (xe : Value → Shared → Prop), Takes (X.tr pn xe) W' → PassesOwn (model X.prog X.w) X.A X.env xe → PSs (X.tr pn xe) body (tS (Wd.mk X.K T) W' mb))
    (hsu : ∀ (a : Addr) (oe : Obj) (pn : List (Addr × Obj)), PSs (X.suite a ((a, oe) :: pn)) (b₀ :: suite) (tS (Wd.mk X.K T) (fun _ _ _ _ => False) mh)) :
    PS X (.Try body [.ExceptHandler (some (.Name x np)) none (b₀ :: suite) pos'] [] [] pos) (tS (Wd.mk X.K T) W (sTryO cs mb mh)) :=
  PSi (ps_try_only (tb := fun W' => tS (Wd.mk X.K T) W' mb) (ts := fun _ _ _ => tS (Wd.mk X.K T) (fun _ _ _ _ => False) mh) (Wout := W) hs hf hc tk hb (fun a oe cls d pn _ _ => hsu a oe pn)) fun D σ H ⟨c, s, h, R, S, o⟩ => ⟨c, s, h, R, S, (by
    simp only [sTryO] at o
    cases q : mb s h with
    | ex e s' h' =>
      rw [q] at o
      dsimp only at o
      intro c' cls dd σ' H' R' E' S' r'
      obtain ⟨rfl, r2⟩ := r'
      cases z : cs.lookup e.c with
      | none => rw [z] at o; exact o.elim
      | some b =>
        rw [z] at o
        refine ⟨b, lookup_fact he z, fun hb1 a ha => ?_, fun hb0 => ?_⟩
        · subst hb1
          dsimp only at o
          exact ⟨c', s', h', R', S', o.noEx.shift' E'⟩
        · subst hb0
          dsimp only at o
          exact o c' _ dd σ' H' R' E' S' ⟨rfl, r2⟩
    | nx s' h' => rw [q] at o; exact o
    | rt d h' => rw [q] at o; exact o
    | bk s' h' => rw [q] at o; exact o
    | ct s' h' => rw [q] at o; exact o
    | st => rw [q] at o; exact o)⟩
end

/-! ### any, all of a list of truths -/
def blsL : List D → Option (List Bool)
  | [] => some []
  | .bl b :: r => (match blsL r with
    | some l => some (b :: l)
    | none => none)
  | _ => none
def fAny (h : AH) : List D → Option D
  | [x] => match seqL h x with
    | some xs => (match blsL xs with
      | some bs => some (.bl (bs.any id))
      | none => none)
    | none => none
  | _ => none
def fAll (h : AH) : List D → Option D
  | [x] => match seqL h x with
    | some xs => (match blsL xs with
      | some bs => some (.bl (bs.all id))
      | none => none)
    | none => none
  | _ => none
theorem blsL_ok {w : Wd} {c : Cf} : ∀ {xs : List D} {vs : List V} {bs : List Bool}, RepL w c xs vs → blsL xs = some bs → vs = bs.map V.bl
  | [], vs, bs, r, e => by
    cases e
    simpa [RepL] using r
  | d :: xs, vs, bs, r, e => by
    cases d with
    | bl b =>
      simp only [blsL] at e
      split at e
      · rename_i l e2
        cases e
        simp only [RepL] at r
        obtain ⟨x, ys, rfl, r1, r2⟩ := r
        rw [rp_bl r1, blsL_ok r2 e2]
        rfl
      · cases e
    | _ => cases e
section
variable {w : Wd}
theorem n_any : OpN w (rAny w.K) fAny := by
  intro c h H xs z vs Q R r e G
  unfold fAny at e
  split at e
  · obtain ⟨v, rfl, rv⟩ := rpl1 r
    split at e
    · rename_i ys q
      split at e
      · rename_i bs q2
        cases e
        obtain ⟨a, us, rfl, t, rl⟩ := seqL_ok R rv q
        exact ⟨a, bs, rfl, by rw [← blsL_ok rl q2]; exact t, G.bl R⟩
      · cases e
    · cases e
  · cases e
theorem n_all : OpN w (rAll w.K) fAll := by
  intro c h H xs z vs Q R r e G
  unfold fAll at e
  split at e
  · obtain ⟨v, rfl, rv⟩ := rpl1 r
    split at e
    · rename_i ys q
      split at e
      · rename_i bs q2
        cases e
        obtain ⟨a, us, rfl, t, rl⟩ := seqL_ok R rv q
        exact ⟨a, bs, rfl, by rw [← blsL_ok rl q2]; exact t, G.bl R⟩
      · cases e
    · cases e
  · cases e
end
end MP
set_option Elab.async false
set_option linter.all false
set_option maxRecDepth 100000
set_option maxHeartbeats 4000000
/-! mirrors: further builtins and operators: in, sum, tuple, list, slices, += -/
namespace MP
open PySem PySem.Spec L2
open PyProof.Rows hiding St

/-! ### x in a row of numbers, of texts -/
def intsL : List D → Option (List Int)
  | [] => some []
  | .int b :: r => (match intsL r with
    | some l => some (b :: l)
    | none => none)
  | _ => none
def strsL : List D → Option (List Str)
  | [] => some []
  | .str b :: r => (match strsL r with
    | some l => some (b :: l)
    | none => none)
  | _ => none
theorem intsL_ok {w : Wd} {c : Cf} : ∀ {xs : List D} {vs : List V} {bs : List Int}, RepL w c xs vs → intsL xs = some bs → vs = bs.map V.int
  | [], vs, bs, r, e => by
    cases e
    simpa [RepL] using r
  | d :: xs, vs, bs, r, e => by
    cases d with
    | int b =>
      simp only [intsL] at e
      split at e
      · rename_i l e2
        cases e
        simp only [RepL] at r
        obtain ⟨x, ys, rfl, r1, r2⟩ := r
        rw [rp_int r1, intsL_ok r2 e2]
        rfl
      · cases e
    | _ => cases e
theorem strsL_ok {w : Wd} {c : Cf} : ∀ {xs : List D} {vs : List V} {bs : List Str}, RepL w c xs vs → strsL xs = some bs → vs = bs.map V.str
  | [], vs, bs, r, e => by
    cases e
    simpa [RepL] using r
  | d :: xs, vs, bs, r, e => by
    cases d with
    | str b =>
      simp only [strsL] at e
      split at e
      · rename_i l e2
        cases e
        simp only [RepL] at r
        obtain ⟨x, ys, rfl, r1, r2⟩ := r
        rw [rp_str r1, strsL_ok r2 e2]
        rfl
      · cases e
    | _ => cases e
theorem intsL_map (ns : List Int) : intsL (ns.map .int) = some ns := by
  induction ns with
  | nil => rfl
  | cons n ns ih => simp only [List.map_cons, intsL, ih]
theorem strsL_map (ns : List Str) : strsL (ns.map .str) = some ns := by
  induction ns with
  | nil => rfl
  | cons n ns ih => simp only [List.map_cons, strsL, ih]
def inB (h : AH) (x y : D) : Option Bool := match seqX h y with
  | some xs => (match x with
    | .int i => (match intsL xs with
      | some ns => some (decide (i ∈ ns))
      | none => none)
    | .str z => (match strsL xs with
      | some ns => some (decide (z ∈ ns))
      | none => none)
    | _ => none)
  | none => none
def pIn (h : AH) (x y : D) : Option D := match inB h x y with
  | some b => some (.bl b)
  | none => none
def pNotIn (h : AH) (x y : D) : Option D := match inB h x y with
  | some b => some (.bl (!b))
  | none => none
theorem inV_int (i : Int) (ns : List Int) : inV (.int i) (ns.map V.int) = decide (i ∈ ns) := by
  induction ns with
  | nil => rfl
  | cons n ns ih =>
    have e : inV (.int i) (V.int n :: ns.map V.int) = (n == i || inV (.int i) (ns.map V.int)) := rfl
    rw [List.map_cons, e, ih]
    by_cases h : i = n
    · simp [h]
    · have : (n == i) = false := by simp; omega
      simp [h, this]
theorem inV_str (i : Str) (ns : List Str) : inV (.str i) (ns.map V.str) = decide (i ∈ ns) := by
  induction ns with
  | nil => rfl
  | cons n ns ih =>
    have e : inV (.str i) (V.str n :: ns.map V.str) = (n == i || inV (.str i) (ns.map V.str)) := rfl
    rw [List.map_cons, e, ih]
    by_cases h : i = n
    · simp [h]
    · have : (n == i) = false := by simpa using fun z : n = i => h z.symm
      simp [h, this]
section
variable {w : Wd}
theorem inB_ok {c : Cf} {h : AH} {H : Hp} {x y : D} {v u : V} {b : Bool} (R : Rel w c h H) (rx : Rep w c x v) (ry : Rep w c y u) (e : inB h x y = some b) :
    ∃ p vs, u = .ref p ∧ (SqL w.K H p vs ∨ SqT w.K H p vs) ∧ flatV v = true ∧ vs.all flatV = true ∧ inV v vs = b := by
  unfold inB at e
  split at e
  · rename_i xs q
    have sq : ∃ p vs, u = .ref p ∧ (SqL w.K H p vs ∨ SqT w.K H p vs) ∧ RepL w c xs vs := by
      unfold seqX at q
      split at q
      · rename_i zs q2
        cases q
        obtain ⟨a, us, rfl, t, rl⟩ := seqT_ok R ry q2
        exact ⟨a, us, rfl, .inr t, rl⟩
      · obtain ⟨a, us, rfl, t, rl⟩ := seqL_ok R ry q
        exact ⟨a, us, rfl, .inl t, rl⟩
    obtain ⟨p, vs, rfl, t, rl⟩ := sq
    split at e
    · split at e
      · rename_i ns q2
        cases e
        obtain rfl := rp_int rx
        obtain rfl := intsL_ok rl q2
        exact ⟨p, _, rfl, t, rfl, by simp [flatV], inV_int _ _⟩
      · cases e
    · split at e
      · rename_i ns q2
        cases e
        obtain rfl := rp_str rx
        obtain rfl := strsL_ok rl q2
        exact ⟨p, _, rfl, t, rfl, by simp [flatV], inV_str _ _⟩
      · cases e
    · cases e
  · cases e
theorem g_in : Op2 w (rIn w.K false) pIn := by
  intro c h H x y z v u Q R rx ry e G
  unfold pIn at e
  split at e
  · rename_i b q
    cases e
    obtain ⟨p, vs, rfl, t, f1, f2, rfl⟩ := inB_ok R rx ry q
    exact ⟨p, vs, rfl, t, f1, f2, G.bl R⟩
  · cases e
theorem g_notIn : Op2 w (rIn w.K true) pNotIn := by
  intro c h H x y z v u Q R rx ry e G
  unfold pNotIn at e
  split at e
  · rename_i b q
    cases e
    obtain ⟨p, vs, rfl, t, f1, f2, rfl⟩ := inB_ok R rx ry q
    exact ⟨p, vs, rfl, t, f1, f2, G.bl R⟩
  · cases e
/-! ### sum, tuple, list -/
def fSum (h : AH) : List D → Option D
  | [x] => match seqL h x with
    | some xs => (match intsL xs with
      | some ns => some (.int ns.sum)
      | none => none)
    | none => none
  | _ => none
def fTuple (h : AH) : List D → Option D
  | [x] => match seqT x with
    | some _ => some x
    | none => (match seqL h x with
      | some xs => some (.tup xs)
      | none => none)
  | _ => none
def fList (h : AH) : List D → Option D
  | [x] => match seqX h x with
    | some xs => some (.lst xs)
    | none => none
  | _ => none
theorem n_sum : OpN w (rSum w.K) fSum := by
  intro c h H xs z vs Q R r e G
  unfold fSum at e
  split at e
  · obtain ⟨v, rfl, rv⟩ := rpl1 r
    split at e
    · rename_i ys q
      split at e
      · rename_i ns q2
        cases e
        obtain ⟨a, us, rfl, t, rl⟩ := seqL_ok R rv q
        exact ⟨a, ns, rfl, by rw [← intsL_ok rl q2]; exact t, G.int R⟩
      · cases e
    · cases e
  · cases e
theorem n_tuple : OpN w (fun xs H Q => ∃ p ys, xs = [.ref p] ∧ ((SqL w.K H p ys ∧ ∀ l, H l = none → Q (.ref l) (upd H l (.tup ys))) ∨ (SqT w.K H p ys ∧ Q (.ref p) H))) fTuple := by
  intro c h H xs z vs Q R r e G
  unfold fTuple at e
  split at e
  · obtain ⟨v, rfl, rv⟩ := rpl1 r
    split at e
    · rename_i ys q
      cases e
      obtain ⟨a, us, rfl, t, rl⟩ := seqT_ok R rv q
      exact ⟨a, us, rfl, .inr ⟨t, G.same R rv⟩⟩
    · split at e
      · rename_i ys q
        cases e
        obtain ⟨a, us, rfl, t, rl⟩ := seqL_ok R rv q
        exact ⟨a, us, rfl, .inl ⟨t, fun l hl => G.tup R rl l hl⟩⟩
      · cases e
  · cases e
theorem n_list : OpN w (fun xs H Q => ∃ p ys, xs = [.ref p] ∧ (SqL w.K H p ys ∨ SqT w.K H p ys) ∧ ∀ l, H l = none → Q (.ref l) (upd H l (.lst ys))) fList := by
  intro c h H xs z vs Q R r e G
  unfold fList at e
  split at e
  · obtain ⟨v, rfl, rv⟩ := rpl1 r
    split at e
    · rename_i ys q
      cases e
      unfold seqX at q
      split at q
      · rename_i zs q2
        cases q
        obtain ⟨a, us, rfl, t, rl⟩ := seqT_ok R rv q2
        exact ⟨a, us, rfl, .inr t, fun l hl => G.lst R rl l hl⟩
      · obtain ⟨a, us, rfl, t, rl⟩ := seqL_ok R rv q
        exact ⟨a, us, rfl, .inl t, fun l hl => G.lst R rl l hl⟩
    · cases e
  · cases e
end
/-! ### x += e -/
def sAug (i : Nat) (g : AH → D → D → Option D) (e : ME) : MS := fun s h => match s[i]? with
  | some (some x) => (e s h).bindS s fun y h1 => match g h1 x y with
    | some z => .nx (s.set i (some z)) h1
    | none => .st
  | _ => .st
def pAddI (_ : AH) : D → D → Option D
  | .int i, .int j => some (.int (i + j))
  | _, _ => none
def pSubI (_ : AH) : D → D → Option D
  | .int i, .int j => some (.int (i - j))
  | _, _ => none
section
variable {w : Wd}
theorem g_addI : Op2 w (fun x y H Q => ipI (fun i j => i + j) x y H Q) pAddI := by
  intro c h H x y z v u Q R rx ry e G
  unfold pAddI at e
  split at e
  · cases e
    exact ⟨_, _, rp_int rx, rp_int ry, G.int R⟩
  · cases e
theorem g_subI : Op2 w (fun x y H Q => ipI (fun i j => i - j) x y H Q) pSubI := by
  intro c h H x y z v u Q R rx ry e G
  unfold pSubI at e
  split at e
  · cases e
    exact ⟨_, _, rp_int rx, rp_int ry, G.int R⟩
  · cases e
end
section
variable {X : Cx} {T : Nat → Addr} {W : WX} {e : Expr} {ma : ME} {pos pos' : Pos}
theorem s_aug {i : Nat} {x : Str} {op : Operator} {ti : TIp} {g : AH → D → D → Option D} (hN : X.N.Nodup) (ho : PIp X op ti) (hg : Op2 (Wd.mk X.K T) (fun x y H Q => ti x y H Q) g) (he : PE X e (tM (Wd.mk X.K T) W ma)) (hi : X.N[i]? = some x := by rfl)
    (hx : Loc X.env.scope x := by first | exact .inl rfl | exact .inr rfl) (hf : X.fn x = true ∨ X.env.scope.names.lookup x = some .local := by first | exact .inl rfl | exact .inr rfl) :
    PS X (.AugAssign (.Name x pos') op e pos) (tS (Wd.mk X.K T) W (sAug i g ma)) :=
  PSi (ps_aug hN hi hx he ho hf) fun D σ H ⟨c, s, h, R, S, o⟩ => by
    simp only [sAug] at o
    split at o
    · rename_i x0 ex
      obtain ⟨v, e1, r1⟩ := S.get ex
      refine ⟨v, e1, c, s, h, R, S, (OutS.bind (A := Rep (Wd.mk X.K T)) S o).mono ?_⟩
      rintro u H1 ⟨c1, h1, y, R1, E1, r2, o2⟩
      split at o2
      · rename_i z q
        exact hg c1 h1 H1 _ _ z v u _ R1 (r1.ext E1) r2 q fun c2 w2 H2 R2 E2 r3 => o2 c2 _ H2 R2 E2 (((S.ext E1).ext E2).set r3)
      · exact o2.elim
    · exact o.elim
end
/-! ### slices -/
def cutD (xs : List D) (lo hi : Option Int) : List D := (xs.drop (HT.sIx xs.length 0 lo)).take (HT.sIx xs.length xs.length hi - HT.sIx xs.length 0 lo)
def partD (e : Option ME) : Sl → AH → Res (Option Int) := fun s h => match e with
  | none => .ok none h
  | some m => (m s h).bind fun x h1 => match x with
    | .int i => .ok (some i) h1
    | _ => .st
def eSl (a : ME) (lo hi : Option ME) : ME := fun s h => (a s h).bind fun x h1 => (partD lo s h1).bind fun l h2 => (partD hi s h2).bind fun u h3 => match seqT x with
  | some xs => if HT.sIx xs.length 0 l = 0 ∧ HT.sIx xs.length xs.length u = xs.length then .ok x h3 else .ok (.tup (cutD xs l u)) h3
  | none => match seqL h3 x with
    | some xs => .ok (.lst (cutD xs l u)) h3
    | none => .st
theorem repL_drop {w : Wd} {c : Cf} : ∀ {xs : List D} {vs : List V} (n : Nat), RepL w c xs vs → RepL w c (xs.drop n) (vs.drop n)
  | [], vs, n, r => by
    obtain rfl : vs = [] := by simpa [RepL] using r
    simp [RepL]
  | d :: xs, vs, 0, r => r
  | d :: xs, vs, n + 1, r => by
    simp only [RepL] at r
    obtain ⟨x, ys, rfl, r1, r2⟩ := r
    exact repL_drop n r2
theorem repL_take {w : Wd} {c : Cf} : ∀ {xs : List D} {vs : List V} (n : Nat), RepL w c xs vs → RepL w c (xs.take n) (vs.take n)
  | [], vs, n, r => by
    obtain rfl : vs = [] := by simpa [RepL] using r
    simp [RepL]
  | d :: xs, vs, 0, r => by simp [RepL]
  | d :: xs, vs, n + 1, r => by
    simp only [RepL] at r
    obtain ⟨x, ys, rfl, r1, r2⟩ := r
    exact ⟨x, _, rfl, r1, repL_take n r2⟩
theorem repL_cut {w : Wd} {c : Cf} {xs : List D} {vs : List V} {lo hi : Option Int} (r : RepL w c xs vs) : RepL w c (cutD xs lo hi) (cutV vs lo hi) := by
  unfold cutD cutV
  rw [r.len]
  exact repL_take _ (repL_drop _ r)
abbrev tO (w : Wd) (W : WX) (m : Sl → AH → Res (Option Int)) : TO := fun σ H Q => ∃ c s h, Rel w c h H ∧ RelS w c s σ ∧ Out w c H (fun cls dd H' => W cls dd σ H') (fun _ a b => a = b) Q (m s h)
section
variable {X : Cx} {T : Nat → Addr} {W : WX} {e : Expr} {ma ml mu : ME} {pos p2 : Pos} {lo hi : Option Expr}
theorem POi {o : Option Expr} {t t' : TO} (h : PO X o t) (q : ∀ σ H Q, t' σ H Q → t σ H Q) : PO X o t' := ⟨fun pins s σ H Q I z => h.run pins s σ H Q I (q σ H Q z)⟩
theorem o_none : PO X none (tO (Wd.mk X.K T) W (partD none)) := POi po_none fun σ H Q ⟨c, s, h, R, S, o⟩ => o c none H R (.refl R.sub) rfl
theorem o_some {a : Expr} {m : ME} (ha : PE X a (tM (Wd.mk X.K T) W m)) : PO X (some a) (tO (Wd.mk X.K T) W (partD (some m))) := POi (po_some ha) fun σ H Q z => by
  obtain ⟨c, s, h, R, S, o⟩ := z
  refine ⟨c, s, h, R, S, (Out.bind (A := Rep (Wd.mk X.K T)) (show Out (Wd.mk X.K T) c H _ _ Q ((m s h).bind fun x h1 => match x with | .int i => .ok (some i) h1 | _ => .st) from o)).mono ?_⟩
  rintro v H1 ⟨c1, h1, d, R1, E1, r1, o1⟩
  split at o1
  · exact ⟨_, rp_int r1, o1 c1 _ H1 R1 (.refl R1.sub) rfl⟩
  · exact o1.elim
theorem r_sl {l u : Option ME} (he : PE X e (tM (Wd.mk X.K T) W ma)) (hl : PO X lo (tO (Wd.mk X.K T) W (partD l))) (hu : PO X hi (tO (Wd.mk X.K T) W (partD u))) : PE X (.Subscript e (.Slice lo hi none p2) pos) (tM (Wd.mk X.K T) W (eSl ma l u)) :=
  PEi (pe_slice (sl_tupA.or sl_list) he hl hu) fun σ H Q z => by
    obtain ⟨c, s, h, R, S, o⟩ := z
    refine ⟨c, s, h, R, S, (Out.bind (A := Rep (Wd.mk X.K T)) o).mono ?_⟩
    rintro v H1 ⟨c1, h1, d, R1, E1, r1, o1⟩
    refine ⟨c1, s, h1, R1, S.ext E1, (Out.bind (A := fun _ a b => a = b) o1).mono ?_⟩
    rintro vl H2 ⟨c2, h2, dl, R2, E2, rfl, o2⟩
    refine ⟨c2, s, h2, R2, (S.ext E1).ext E2, (Out.bind (A := fun _ a b => a = b) o2).mono ?_⟩
    rintro vu H3 ⟨c3, h3, du, R3, E3, rfl, o3⟩
    have r3 := (r1.ext E2).ext E3
    split at o3
    · rename_i xs q
      obtain ⟨a, vs, rfl, t, rl⟩ := seqT_ok R3 r3 q
      refine .inl ⟨a, vs, rfl, t, fun hw => ?_, fun hw => ?_⟩
      · rw [← rl.len] at hw
        rw [if_pos hw] at o3
        exact o3 c3 _ H3 R3 (.refl R3.sub) r3
      · rw [← rl.len] at hw
        rw [if_neg hw] at o3
        exact fun p hp => Gives.tup (h := h3) o3 R3 (repL_cut rl) p hp
    · split at o3
      · rename_i xs q
        obtain ⟨a, vs, rfl, t, rl⟩ := seqL_ok R3 r3 q
        exact .inr ⟨a, vs, rfl, t, fun p hp => Gives.lst (h := h3) o3 R3 (repL_cut rl) p hp⟩
      · exact o3.elim
end
end MP
set_option Elab.async false
set_option linter.all false
set_option maxRecDepth 100000
set_option maxHeartbeats 4000000
/-! mirrors: zip, enumerate -/
namespace MP
open PySem PySem.Spec L2
open PyProof.Rows hiding St

def zipD (xs ys : List D) : List D := (xs.zip ys).map fun p => .tup [p.1, p.2]
def iZip (as : MA) : MI := fun s h => (as s h).bind fun ds h1 => match ds with
  | [x, y] => match seqL h1 x, seqL h1 y with
    | some xs, some ys => .ok ⟨zipD xs ys, fun h => lstOk x xs h && lstOk y ys h⟩ h1
    | _, _ => .st
  | _ => .st
theorem zipD_get {xs ys : List D} {i : Nat} {d : D} (h : (zipD xs ys)[i]? = some d) : ∃ x y, xs[i]? = some x ∧ ys[i]? = some y ∧ d = .tup [x, y] := by
  unfold zipD at h
  rw [List.getElem?_map] at h
  cases q : (xs.zip ys)[i]? with
  | none => rw [q] at h; cases h
  | some p =>
    rw [q] at h
    cases h
    obtain ⟨h1, h2⟩ := List.getElem?_zip_eq_some.mp q
    exact ⟨p.1, p.2, h1, h2, rfl⟩
theorem layTup {w : Wd} {c : Cf} {h : AH} {H : Hp} (R : Rel w c h H) {ds : List D} {vs : List V} (r : RepL w c ds vs) {T : Addr} (hT : H T = none) : ∃ c', Rel w c' h (upd H T (.tup vs)) ∧ Ext c H c' (upd H T (.tup vs)) ∧ Rep w c' (.tup ds) (.ref T) := by
  obtain ⟨R', E⟩ := R.lay (H' := upd H T (.tup vs)) (u := .tup vs) hT (fun a v e => (upd_ne (ne_of_none e hT)).trans e) upd_same
  exact ⟨_, R', E, by simp only [Rep]; exact ⟨T, vs, rfl, .inl ⟨.inl upd_same, R.noidNew hT⟩, r.ext E⟩⟩
theorem sqL_inj {w : Wd} {c : Cf} {h : AH} {H : Hp} {a : Addr} {vs us : List V} (R : Rel w c h H) (x : SqL w.K H a vs) (y : SqL w.K H a us) (same : ∀ vs us, SqL w.K H a vs → SqL w.K H a us → vs = us) : vs = us := same _ _ x y
section
variable {X : Cx} {T : Nat → Addr} {W : WX} {e e2 : Expr} {ms : MA} {pos p tpos : Pos} {elts : List Expr} {kk : Nat}
theorem i_zip (hm : X.mg "zip" = none) (ha : PA X [e, e2] (tA (Wd.mk X.K T) W ms)) (hg : Gl X "zip" := by rfl)
    (hs : starEach [e, e2] X.env = (false, eval e X.env) :: starEach [e2] X.env := by rfl) (hpl : (backTo pos (starEach [e2] X.env)).any (·.1) = false := by rfl) :
    PI X (.Tuple elts kk tpos) (.Call (.Name "zip" p) [e, e2] [] pos) (tI (Wd.mk X.K T) W (iZip ms)) :=
  PIi (pi_zip hg hm ha hs hpl) fun σ H R ⟨c, s, h, R0, S, z⟩ => ⟨c, s, h, R0, S, (OutW.bind (A := RepL (Wd.mk X.K T)) z).mono (by
    rintro vs H1 ⟨c1, h1, ds, R1, E1, r1, o⟩
    split at o
    · rename_i x y
      obtain ⟨v, u, rfl, rx, ry⟩ := rpl2 r1
      split at o
      · rename_i xs ys q1 q2
        obtain ⟨a, as, rfl, sa, ra⟩ := seqL_ok R1 rx q1
        obtain ⟨b, bs, rfl, sb, rb⟩ := seqL_ok R1 ry q2
        refine ⟨a, b, as, bs, rfl, sa, sb, o c1 _ H1 R1 (.refl R1.sub) ?_⟩
        intro c2 h2 H2 i R2 E2 hk
        have hk := Bool.and_eq_true_iff.mp hk
        obtain ⟨a2, vs2, ea, sa2, ra2⟩ := lst_at R1 R2 E2 rx q1 hk.1
        obtain ⟨b2, us2, eb, sb2, rb2⟩ := lst_at R1 R2 E2 ry q2 hk.2
        cases ea
        cases eb
        refine ⟨fun hi => ⟨vs2, us2, sa2, sb2, ?_⟩, fun d hd => ?_⟩
        · have hl : (zipD xs ys).length = min xs.length ys.length := by simp [zipD]
          have hi' : i = (zipD xs ys).length := hi
          rw [hl, ra2.len, rb2.len] at hi'
          omega
        · obtain ⟨dx, dy, g1, g2, rfl⟩ := zipD_get hd
          obtain ⟨vx, e1, r3⟩ := ra2.get g1
          obtain ⟨vy, e3, r4⟩ := rb2.get g2
          refine ⟨⟨vs2, us2, vx, vy, sa2, sb2, e1, e3⟩, ?_⟩
          rintro v H' ⟨T', x', y', rfl, hT, rfl, k1, k2⟩
          have z1 := k1 _ sa2
          have z2 := k2 _ sb2
          rw [e1] at z1
          rw [e3] at z2
          cases z1
          cases z2
          exact layTup R2 (ds := [dx, dy]) (vs := [vx, vy]) ⟨_, _, rfl, r3, _, _, rfl, r4, rfl⟩ hT
      · exact o.elim
    · exact o.elim)⟩
/-- enumerate of a list -/
def numD (xs : List D) : List D := xs.zipIdx.map fun p => .tup [.int (p.2 : Nat), p.1]
theorem numD_get {xs : List D} {i : Nat} {d : D} (h : (numD xs)[i]? = some d) : ∃ x, xs[i]? = some x ∧ d = .tup [.int (i : Nat), x] := by
  unfold numD at h
  rw [List.getElem?_map, List.getElem?_zipIdx] at h
  cases q : xs[i]? with
  | none => rw [q] at h; cases h
  | some x =>
    rw [q] at h
    cases h
    exact ⟨x, rfl, by simp⟩
def iEnum (as : MA) : MI := fun s h => (as s h).bind fun ds h1 => match ds with
  | [x] => match seqL h1 x with
    | some xs => .ok ⟨numD xs, lstOk x xs⟩ h1
    | none => .st
  | _ => .st
theorem i_enum (hm : X.mg "enumerate" = none) (ha : PA X [e] (tA (Wd.mk X.K T) W ms)) (hg : Gl X "enumerate" := by rfl) (hs : starEach [e] X.env = [(false, eval e X.env)] := by rfl) :
    PI X (.Tuple elts kk tpos) (.Call (.Name "enumerate" p) [e] [] pos) (tI (Wd.mk X.K T) W (iEnum ms)) :=
  PIi (pi_enum hg hm ha hs) fun σ H R ⟨c, s, h, R0, S, z⟩ => ⟨c, s, h, R0, S, (OutW.bind (A := RepL (Wd.mk X.K T)) z).mono (by
    rintro vs H1 ⟨c1, h1, ds, R1, E1, r1, o⟩
    split at o
    · rename_i x
      obtain ⟨v, rfl, rx⟩ := rpl1 r1
      split at o
      · rename_i xs q1
        obtain ⟨a, as, rfl, sa, ra⟩ := seqL_ok R1 rx q1
        refine ⟨a, as, rfl, sa, o c1 _ H1 R1 (.refl R1.sub) ?_⟩
        intro c2 h2 H2 i R2 E2 hk
        obtain ⟨a2, vs2, ea, sa2, ra2⟩ := lst_at R1 R2 E2 rx q1 hk
        cases ea
        refine ⟨fun hi => ⟨vs2, sa2, ?_⟩, fun d hd => ?_⟩
        · have hl : (numD xs).length = xs.length := by simp [numD]
          have hi' : i = (numD xs).length := hi
          rw [hl, ra2.len] at hi'
          omega
        · obtain ⟨dx, g1, rfl⟩ := numD_get hd
          obtain ⟨vx, e1, r3⟩ := ra2.get g1
          refine ⟨⟨vs2, vx, sa2, e1⟩, ?_⟩
          rintro v H' ⟨T', x', rfl, hT, rfl, k1⟩
          have z1 := k1 _ sa2
          rw [e1] at z1
          cases z1
          exact layTup R2 (ds := [.int (i : Nat), dx]) (vs := [.int (i : Nat), vx]) ⟨_, _, rfl, by simp [Rep], _, _, rfl, r3, rfl⟩ hT
      · exact o.elim
    · exact o.elim)⟩
end
end MP
set_option Elab.async false
set_option linter.all false
set_option maxRecDepth 100000
set_option maxHeartbeats 4000000
/-! mirrors: enumerate of a tuple -/
namespace MP
open PySem PySem.Spec L2
open PyProof.Rows hiding St

theorem drawsTup {prog : Program} {w : World} {A : Around} (hh : A.handled = none) (it l : Addr) (hne : l ≠ it) (items : Array Value) :
    Draws prog w A it [it, l] items.size (fun i v => items[i]? = some v) (fun i h => h.IsTupleIter it l i ∧ h.IsTuple l items) where
  live := fun _ _ st => by
    obtain ⟨⟨o, ho, _⟩, _⟩ := st
    exact ⟨o, ho⟩
  frame := fun _ _ _ st k => ⟨st.1.at fun o e => k it (by simp) o e, by
    obtain ⟨o, ho, hc⟩ := st.2
    exact ⟨o, k l (by simp) o ho, hc⟩⟩
  item := fun i s Q E hi st q => RZ.nextOf_tuple_item st.1 st.2 (x := items[i]) (by simp [hi]) fun h' a b => q _ h' s.toks (by simp [hi]) ⟨a, by
    obtain ⟨o, ho, hc⟩ := st.2
    exact ⟨o, b.extBut _ _ hne ho, hc⟩⟩ b
  done := fun s Q E st q => RZ.nextOf_tuple_end hh st.1 st.2 (by simp) q
theorem newEnumTup (l : Addr) (items : Array Value) :
    Meets (Builtin.«enumerate.__new__» ⟨[.type "enumerate", .ref l], []⟩) (fun _ R s => s.heap.IsTuple l items ∧
      R (.ok (.ret (.ref (s.heap.push { cls := .type "tuple_iterator", data := .fields #[.ref l, .int 0 0] }).objs.size)))
        { s with heap := (s.heap.push { cls := .type "tuple_iterator", data := .fields #[.ref l, .int 0 0] }).push { cls := .type "enumerate", data := .fields #[.none, .bool false, .ref s.heap.objs.size, rawInt 0, .none, .none] } }) :=
  .of_wp fun prog w A R s ⟨hl, q⟩ => by
    obtain ⟨hp, g, d, tk, os⟩ := s
    have hsub := sub_enumerate
    have hT : Heap.IsTuple (Shared.heap ⟨hp, g, d, tk, os⟩) l items := hl
    obtain ⟨o, ho, hc, n, hd⟩ := id hl
    obtain ⟨oc, od, dt, sl⟩ := o
    dsimp only at hc hd
    subst hc hd
    have ho' : hp.get? l = some { cls := .type "tuple", dict := od, data := .seq items n, slots := sl } := ho
    wp_walk using AutoSeq1.wpAny_loadPart' ho'
    refine wpAny_stack_any fun st => wpAny_pure ?_
    split
    · rename_i c _ _ _ _ _
      cases (c == Value.type "enumerate")
      · wp_walk using AutoSeq1.wpAny_loadPart' ho', wpAny_pyIter_tuple hT
        exact ⟨_, rfl, q⟩
      · wp_walk using AutoSeq1.wpAny_loadPart' ho', wpAny_pyIter_tuple hT
        exact ⟨_, rfl, q⟩
    · wp_walk using AutoSeq1.wpAny_loadPart' ho', wpAny_pyIter_tuple hT
      exact ⟨_, rfl, q⟩
theorem callEnumTup {prog : Program} {w : World} {A : Around} {E : Value → Shared → Prop} {s : Shared} {l : Addr} {items : Array Value} {Q : Value → Shared → Prop} (hl : s.heap.IsTuple l items)
    (h : ∀ h', IsEnum h' (s.heap.objs.size + 1) s.heap.objs.size 0 .none → h'.IsTupleIter s.heap.objs.size l 0 → h'.objs.size = s.heap.objs.size + 2 → (∀ b o, s.heap.get? b = some o → h'.get? b = some o) →
      Q (.ref (s.heap.objs.size + 1)) { s with heap := h' }) : wpAny (model prog w) A (call (.type "enumerate") [.ref l]) Q E s := by
  refine callType_new F.called_enumerate (by decide) (F.typeCall_enumerate_1 _) (F.newCall_enumerate_1 _) (fun obj => F.args_object_init_2 obj _) F.entry_enumerate_new (newEnumTup l items) ⟨hl, ?_⟩
  have z1 : (s.heap.push { cls := .type "tuple_iterator", data := .fields #[.ref l, .int 0 0] }).objs.size = s.heap.objs.size + 1 := Heap.size_push ..
  have he := Heap.get?_push_size (s.heap.push { cls := .type "tuple_iterator", data := .fields #[.ref l, .int 0 0] }) (o := { cls := .type "enumerate", data := .fields #[.none, .bool false, .ref s.heap.objs.size, rawInt 0, .none, .none] }) rfl
  rw [z1] at he
  show _ ∧ _
  rw [z1]
  exact ⟨⟨_, he, rfl⟩, h _ he ⟨_, Heap.get?_push_of_some _ (Heap.get?_push_size _ rfl), rfl, rfl⟩ ((Heap.size_push ..).trans (by rw [z1])) fun b o x => Heap.get?_push_of_some _ (Heap.get?_push_of_some _ x)⟩
/-- the tuple at a as it stands at each turn, each item in a new pair -/
def IteT (K : PySem.W.Frag) (a : Addr) : It where
  go i H := ∃ (xs : List V) (x : V), SqT K H a xs ∧ xs[i]? = some x
  yld i H v H' := ∃ T x, v = .ref T ∧ H T = none ∧ H' = upd H T (.tup [.int (i : Nat), x]) ∧ ∀ xs, SqT K H a xs → xs[i]? = some x
  stop i H := ∃ xs : List V, SqT K H a xs ∧ xs.length ≤ i
theorem turnEnumT {P : Program} {w : World} {K : PySem.W.Frag} {elts : List Expr} {kk : Nat} {tpos : Pos} (a e it : Addr) (hne : e ≠ it) (ha : a ≠ it) (hea : e ≠ a) :
    Turn P w K (.Tuple elts kk tpos) (IteT K a) [e, it] e (fun i h => (∃ old, IsEnum h e it ((i : Nat) : Int) old) ∧ h.IsTupleIter it a i) where
  mem := List.mem_cons_self
  obj := fun i h st b hb => by
    obtain ⟨⟨old, he⟩, o, ho, _, hd⟩ := st
    rcases List.mem_cons.mp hb with rfl | hb
    · exact ⟨_, he, fun v q => nomatch q⟩
    · rw [List.mem_singleton.mp hb]
      exact ⟨o, ho, fun v q => by rw [hd] at q; cases q⟩
  keep := fun i h h' ⟨⟨old, he⟩, hi⟩ k => ⟨⟨old, k e (by simp) _ he⟩, hi.at fun o q => k it (by simp) o q⟩
  item := by
    intro X hP hw hK hc i pins s σ H E I hf st hg
    subst hP hw hK
    obtain ⟨⟨old, he⟩, hit⟩ := st
    obtain ⟨xs, x, hq, hx⟩ := hg
    obtain ⟨its, rv, p, hz⟩ := I.tuple hq
    obtain ⟨u, hu, ru⟩ := rv.get hx
    have hel : e < s.heap.objs.size := Heap.lt_size he
    have hil : it < s.heap.objs.size := by
      obtain ⟨_, q, _⟩ := hit
      exact Heap.lt_size q
    have hlt : i < its.toArray.size := by
      rw [List.size_toArray]
      exact (List.getElem?_eq_some_iff.mp hu).1
    refine wpAny_pyNext_enum_itemD (drawsTup (show X.A.in1.handled = none from I.ok.hd hc) it a ha its.toArray) he ⟨hit, p⟩ hlt hne (by simp [hne, hea]) fun v h' tk hv ho hst hT hsz hk => ?_
    have ev : v = u := by
      have : its[i]? = some v := by simpa using hv
      rw [hu] at this
      exact (Option.some.inj this).symm
    subst ev
    refine ⟨_, rfl, wpAny_letOwnedTupleGo_enum (s := { s with heap := h', toks := tk + 1 }) ho fun h'' he' sb => ?_⟩
    have hT2 : h''.get? s.heap.objs.size = some { cls := .type "tuple", data := .seq #[.int i tk, v] } := (sb.2 _ (Nat.ne_of_gt hel)).trans hT
    have new : ObjOk X.prog X.w (upd H s.heap.objs.size (.tup [.int (i : Nat), x])) h'' s.heap.objs.size (.tup [.int (i : Nat), x]) :=
      ⟨by show 2 ≤ sizeLine; decide, [.int i tk, v], .cons ⟨_, rfl⟩ (.cons ru .nil), ⟨_, hT2, rfl, _, rfl⟩⟩
    have I1 : Inv X pins σ (upd H s.heap.objs.size (.tup [.int (i : Nat), x])) { s with heap := h'', toks := tk + 1 } :=
      I.turnedNew (ch := [e, it]) (fun b ob hb q => (sb.2 b (fun z => hb (by simp [z]))).trans (hk b ob (fun z => hb (by simp [z])) (fun z => hb (by simp [z])) q)) hf (Nat.le_refl _) new
    refine ⟨.ref s.heap.objs.size, _, I1, rfl, ⟨_, x, rfl, I.hok.fresh (Nat.le_refl _), rfl, fun l hl => I.tuple_inj hl hq ▸ hx⟩, ⟨⟨v, ?_⟩, hst.1.at fun o q => (sb.2 it (Ne.symm hne)).trans q⟩, fun b hb => ?_⟩
    · rw [show ((i + 1 : Nat) : Int) = (i : Int) + 1 by omega]
      exact he'
    · have hb' : b < s.heap.objs.size := by
        rcases List.mem_cons.mp hb with z | z
        · exact z ▸ hel
        · exact List.mem_singleton.mp z ▸ hil
      rw [upd_ne (Nat.ne_of_lt hb')]
      exact (hf b hb).1
  done := by
    intro X hP hw hK hc i pins s σ H E I hf st hg
    subst hP hw hK
    obtain ⟨⟨old, he⟩, hit⟩ := st
    obtain ⟨xs, hq, hx⟩ := hg
    obtain ⟨its, rv, p, hz⟩ := I.tuple hq
    obtain ⟨f0, f1, f2, f3, f4, f5⟩ := hf it (by simp)
    have hn : its.toArray.size ≤ i := by
      rw [List.size_toArray, ← rv.length]
      exact hx
    have hT : s.TypeIs (.ref e) "enumerate" := ⟨_, he, rfl⟩
    unfold pyNext
    refine wpAny_bind (wpAny_attempt (wpAny_callSpecial?_slot (name := Str.ofString "__next__") hT PySem.F.slot_enumerate_next (wpAny_call_entry PySem.F.slot_enumerate_next hT PySem.F.entry_enumerate_next ?_ (PySem.F.args_enumerate_next_1 _))))
    show wpAny _ _ (field (.ref e) 2 >>= _) _ _ _
    refine wpAny_bind (wpAny_field he rfl (x := .ref it) rfl ?_)
    refine wpAny_bind (RZ.nextOf_tuple_end (I.ok.hd hc) hit p (by simpa using hn) fun h' x eb hs => ?_)
    obtain ⟨o, ho, hcl⟩ := hs
    refine wpAny_bind (wpAny_isInstance (T := "StopIteration") (b := true) ⟨o, ho, hcl⟩ isSubtype_stop (wpAny_pure ⟨rfl, ?_⟩))
    exact I.turned (t' := s.toks) (fun b o hb q => eb b o hb q) f0 f1 f3 f4 f5
  self := fun A i s Q E st h => by
    obtain ⟨⟨_, he⟩, _⟩ := st
    exact wpAny_pyIter_enum he h

section
variable {X : Cx} {T : Nat → Addr} {W : WX} {e : Expr} {ms : MA} {ta : TA} {pos p tpos : Pos} {elts : List Expr} {kk : Nat}
def iEnumT0 (K : PySem.W.Frag) (ta : TA) : TI := fun σ H R => ta σ H fun vs H1 => ∃ a xs, vs = [.ref a] ∧ SqT K H1 a xs ∧ R (IteT K a) H1
theorem pi_enumT (hg : Gl X "enumerate") (hm : X.mg "enumerate" = none) (ha : PA X [e] ta) (hs : starEach [e] X.env = [(false, eval e X.env)] := by rfl) :
    PI X (.Tuple elts kk tpos) (.Call (.Name "enumerate" p) [e] [] pos) (iEnumT0 X.K ta) := by
  refine ⟨fun pins s σ H R I h => ?_⟩
  refine Call_ (ld_blt I hg hm boot_enumerate (PyProof.Rows.callWith_type1 (thn (ha.run pos pins s σ H _ I h) fun us s1 ⟨vs, H1, I1, r1, a, xs, ex, hq, q⟩ => ?_) hs rfl))
  subst ex
  obtain ⟨u, rfl, r⟩ := vals1 r1
  obtain rfl : u = Value.ref a := r
  obtain ⟨its, rv, p', hz⟩ := I1.tuple hq
  have la : a < s1.heap.objs.size := by
    obtain ⟨o, ho, _⟩ := p'
    exact Heap.lt_size ho
  refine callEnumTup p' fun h' he hit hsz hk => wpAny_pyIter_enum he ?_
  have I2 : Inv X pins σ H1 { s1 with heap := h' } := I1.kept (t' := s1.toks) hk
  refine ⟨s1.heap.objs.size + 1, [s1.heap.objs.size + 1, s1.heap.objs.size], _, _, H1, rfl, I2, turnEnumT a (s1.heap.objs.size + 1) s1.heap.objs.size (Nat.succ_ne_self _) (Nat.ne_of_lt la) (Nat.ne_of_gt (Nat.lt_succ_of_lt la)), ⟨⟨.none, he⟩, hit⟩, fun b hb => ?_, q⟩
  have hle : s1.heap.objs.size ≤ b := by
    rcases List.mem_cons.mp hb with z | z
    · rw [z]; exact Nat.le_add_right _ _
    · rw [List.mem_singleton.mp z]; exact Nat.le_refl _
  exact I1.fpOk hle (I1.hok.fresh hle)
def iEnumT (as : MA) : MI := fun s h => (as s h).bind fun ds h1 => match ds with
  | [x] => match seqT x with
    | some xs => .ok ⟨numD xs, fun _ => true⟩ h1
    | none => .st
  | _ => .st
theorem i_enumT (hm : X.mg "enumerate" = none) (ha : PA X [e] (tA (Wd.mk X.K T) W ms)) (hg : Gl X "enumerate" := by rfl) (hs : starEach [e] X.env = [(false, eval e X.env)] := by rfl) :
    PI X (.Tuple elts kk tpos) (.Call (.Name "enumerate" p) [e] [] pos) (tI (Wd.mk X.K T) W (iEnumT ms)) :=
  PIi (pi_enumT hg hm ha hs) fun σ H R ⟨c, s, h, R0, S, z⟩ => ⟨c, s, h, R0, S, (OutW.bind (A := RepL (Wd.mk X.K T)) z).mono (by
    rintro vs H1 ⟨c1, h1, ds, R1, E1, r1, o⟩
    split at o
    · rename_i x
      obtain ⟨v, rfl, rx⟩ := rpl1 r1
      split at o
      · rename_i xs q1
        obtain ⟨a, as, rfl, sa, ra⟩ := seqT_ok R1 rx q1
        refine ⟨a, as, rfl, sa, o c1 _ H1 R1 (.refl R1.sub) ?_⟩
        intro c2 h2 H2 i R2 E2 _
        obtain ⟨a2, vs2, ea, sa2, ra2⟩ := seqT_ok R2 (rx.ext E2) q1
        cases ea
        refine ⟨fun hi => ⟨vs2, sa2, ?_⟩, fun d hd => ?_⟩
        · have hl : (numD xs).length = xs.length := by simp [numD]
          have hi' : i = (numD xs).length := hi
          rw [hl, ra2.len] at hi'
          omega
        · obtain ⟨dx, g1, rfl⟩ := numD_get hd
          obtain ⟨vx, e1, r3⟩ := ra2.get g1
          refine ⟨⟨vs2, vx, sa2, e1⟩, ?_⟩
          rintro v H' ⟨T', x', rfl, hT, rfl, k1⟩
          have z1 := k1 _ sa2
          rw [e1] at z1
          cases z1
          exact layTup R2 (ds := [.int (i : Nat), dx]) (vs := [.int (i : Nat), vx]) ⟨_, _, rfl, by simp [Rep], _, _, rfl, r3, rfl⟩ hT
      · exact o.elim
    · exact o.elim)⟩
/-- a list or a tuple -/
def iEnumA (as : MA) : MI := fun s h => (as s h).bind fun ds h1 => match ds with
  | [x] => match seqT x with
    | some xs => .ok ⟨numD xs, fun _ => true⟩ h1
    | none => match seqL h1 x with
      | some xs => .ok ⟨numD xs, lstOk x xs⟩ h1
      | none => .st
  | _ => .st
theorem i_enumA (hm : X.mg "enumerate" = none) (ha : PA X [e] (tA (Wd.mk X.K T) W ms)) (hg : Gl X "enumerate" := by rfl) (hs : starEach [e] X.env = [(false, eval e X.env)] := by rfl) :
    PI X (.Tuple elts kk tpos) (.Call (.Name "enumerate" p) [e] [] pos) (tI (Wd.mk X.K T) W (iEnumA ms)) := by
  refine ⟨fun pins s σ H R I z => ?_⟩
  obtain ⟨c, sl, h, R0, S, z⟩ := z
  simp only [iEnumA] at z
  cases q : ms sl h with
  | ok ds h1 =>
    rw [q] at z
    by_cases hd : ∃ x xs, ds = [x] ∧ seqT x = some xs
    · obtain ⟨x, xs, rfl, q2⟩ := hd
      refine (i_enumT (W := W) hm ha hg hs).run pins s σ H R I ⟨c, sl, h, R0, S, ?_⟩
      simp only [iEnumT, q, Res.bind, q2] at z ⊢
      exact z
    · refine (i_enum (W := W) hm ha hg hs).run pins s σ H R I ⟨c, sl, h, R0, S, ?_⟩
      simp only [iEnum, q, Res.bind] at z ⊢
      split at z
      · rename_i x
        split at z
        · rename_i xs q2
          exact absurd ⟨x, xs, rfl, q2⟩ hd
        · exact z
      · exact z.elim
  | ex e h1 =>
    rw [q] at z
    refine (i_enum (W := W) hm ha hg hs).run pins s σ H R I ⟨c, sl, h, R0, S, ?_⟩
    simp only [iEnum, q, Res.bind] at z ⊢
    exact z
  | st =>
    rw [q] at z
    exact z.elim
end
end MP
set_option Elab.async false
set_option linter.all false
set_option maxRecDepth 100000
set_option maxHeartbeats 4000000
/-! mirrors: sorted of pairs of numbers, in a list or in a tuple -/
namespace MP
open PySem PySem.Spec L2
open PyProof.Rows hiding St

section
variable {prog : Program} {w : World} {A : Around} {E : Value → Shared → Prop} {s : Shared}
theorem collectTup {l : Addr} {vs : List Value} {Q : List Value → Shared → Prop} (hl : s.heap.IsTuple l vs.toArray) (hsz : vs.length ≤ sizeLine)
    (h : Q vs { s with heap := (s.heap.push (seqObj "list" #[] 0)).update s.heap.objs.size (Obj.mapSeq (· ++ vs.toArray)) }) : wpAny (model prog w) A (collect (.ref l)) Q E s := by
  obtain ⟨o, ho, hc, n, hd⟩ := id hl
  have new : (s.heap.push (seqObj "list" #[] 0)).get? s.heap.objs.size = some (seqObj "list" #[] 0) := Heap.get?_push_size _ rfl
  unfold collect
  refine wpAny_bind (wpAny_runValue (codeAny_builtin entry_proto_collect' ?_))
  show wpAny _ _ (newList [] >>= fun n => again (.builtin "list.__iadd__" ⟨[n, .ref l], []⟩)) _ _ s
  refine wpAny_bind (wpAny_newList (wpAny_pure ⟨Code.quiet_builtin _ (by decide +kernel), codeAny_builtin entry_list_iadd' ?_⟩))
  show wpAny _ _ (Builtin.List.listExtendWith (.ref s.heap.objs.size) (.ref l) (.ref s.heap.objs.size)) _ _ { s with heap := s.heap.push (seqObj "list" #[] 0) }
  unfold Builtin.List.listExtendWith
  have ho1 : (s.heap.push (seqObj "list" #[] 0)).get? l = some o := Heap.get?_push_of_some _ ho
  refine wpAny_bind (wpAny_typeOf (T := "tuple") ⟨o, ho1, hc⟩ ?_)
  rw [if_pos (by rw [show (Value.type "tuple" == Value.type "tuple") = true from rfl]; simp)]
  refine wpAny_bind (listItems_at ho1 hd (wpAny_bind (listItems_at (xs := #[]) (n := 0) new rfl ?_)))
  rw [if_neg (by simp)]
  refine wpAny_bind (listUpdate_at (xs := #[]) (n := 0) new rfl ?_ (Nat.zero_le _) (by
    show (#[] ++ vs.toArray).size ≤ sizeLine + 1
    simp only [Array.size_append, List.size_toArray, List.length_nil]
    omega))
  refine wpAny_pure ?_
  show wpAny (model prog w) A (load s.heap.objs.size >>= fun o => match o.data with | .seq xs _ => pure xs.toList | _ => unsupported "internal:collect") Q E { s with heap := (s.heap.push (seqObj "list" #[] 0)).update s.heap.objs.size (Obj.mapSeq (· ++ vs.toArray)) }
  refine wpAny_bind (wpAny_load (get?_update_seq new _) ?_)
  show wpAny _ _ (pure ((#[] : Array Value) ++ vs.toArray).toList) Q E _
  rw [show ((#[] : Array Value) ++ vs.toArray).toList = vs by simp]
  exact wpAny_pure h
theorem sortedOrdT {l : Addr} {vs : List Value} {ltv : Value → Value → Bool} {Q : Value → Shared → Prop} (O : SrtO.Swo ltv) (hl : s.heap.IsTuple l vs.toArray) (hz : vs.length ≤ sizeLine)
    (hS : 2 ≤ vs.length → ∀ (h₁ : Heap) (a : Addr), h₁.get? a = some (seqObj "list" vs.toArray 0) → (∀ b o, s.heap.get? b = some o → b ≠ a ∧ h₁.get? b = some o) → SrtO.SortableO prog w A.in1.in1 { s with heap := h₁ } a vs ltv)
    (h : ∀ out : List Value, SrtO.Srtd ltv out → SrtO.Stb ltv out vs → Q (.ref (s.heap.objs.size + 1)) { s with heap := sortedAll s.heap vs out.toArray }) : wpAny (model prog w) A (call (.builtin "sorted") [.ref l]) Q E s := by
  refine Calls.call_function_entry kind_sorted plain_sorted entry_sorted (args_sorted1 _) ?_
  unfold Builtin.«sorted»
  refine wpAny_bind (m := checkCount "sorted" 1 1 _) (wpAny_pure (wpAny_bind (collectTup hl hz (wpAny_bind (wpAny_newList ?_ hz)))))
  have n1 : ((s.heap.push (seqObj "list" #[] 0)).update s.heap.objs.size (Obj.mapSeq (· ++ vs.toArray))).objs.size = s.heap.objs.size + 1 := (Heap.size_update ..).trans (size_push' ..)
  have at1 : (((s.heap.push (seqObj "list" #[] 0)).update s.heap.objs.size (Obj.mapSeq (· ++ vs.toArray))).push (seqObj "list" vs.toArray 0)).get? (s.heap.objs.size + 1) = some (seqObj "list" vs.toArray 0) := n1 ▸ Heap.get?_push_size _ rfl
  have old : ∀ b o, s.heap.get? b = some o → b ≠ s.heap.objs.size + 1 ∧ (((s.heap.push (seqObj "list" #[] 0)).update s.heap.objs.size (Obj.mapSeq (· ++ vs.toArray))).push (seqObj "list" vs.toArray 0)).get? b = some o := fun b o q => by
    have lt : b < s.heap.objs.size := Heap.lt_size q
    exact ⟨Nat.ne_of_lt (Nat.lt_succ_of_lt lt), Heap.get?_push_of_some _ ((Heap.get?_update_ne _ _ _ _ (Nat.ne_of_lt lt)).trans (Heap.get?_push_of_some _ q))⟩
  show wpAny _ _ _ _ _ { s with heap := ((s.heap.push (seqObj "list" #[] 0)).update s.heap.objs.size (Obj.mapSeq (· ++ vs.toArray))).push (seqObj "list" vs.toArray 0) }
  rw [n1]
  exact wpAny_bind (wpAny_holding (wpAny_call_entry slot_list_sort ⟨_, at1, rfl⟩ entry_list_sort (SrtO.list_sort_ord O at1 hz (fun h2 => hS h2 _ _ at1 old) fun out hs hb => ⟨_, rfl, wpAny_pure ⟨_, rfl, h out hs hb⟩⟩) (args_list_sort _)))
theorem sortedPairsT {l : Addr} {vs : List Value} {k : Value → Int × Int} {Q : Value → Shared → Prop} (hl : s.heap.IsTuple l vs.toArray) (hz : vs.length ≤ sizeLine) (hp : ∀ v ∈ vs, Srt.IsPair s.heap v (k v).1 (k v).2)
    (h : ∀ (h' : Heap) (d : Addr) (out : List Value), SrtO.Srtd (fun v u => SrtO.lexB (k v) (k u)) out → SrtO.Stb (fun v u => SrtO.lexB (k v) (k u)) out vs → (∀ b o, s.heap.get? b = some o → h'.get? b = some o) → s.heap.objs.size ≤ d →
      (∃ n, h'.get? d = some (seqObj "list" out.toArray n)) → Q (.ref d) { s with heap := h' }) : wpAny (model prog w) A (call (.builtin "sorted") [.ref l]) Q E s := by
  refine sortedOrdT (SrtO.swo_lex k) hl hz (fun h2 h₁ a ha kk => ?_) fun out hs hb => h _ _ out hs hb (fun b o e => sortedAll_old e) (Nat.le_succ _) (sortedAll_at s.heap vs out.toArray)
  refine SrtO.pairs_sortableO (s := { s with heap := h₁ }) (by omega) (fun v hm => (hp v hm).keeps fun b o e _ => (kk b o e).2) fun o e c => ?_
  cases e.symm.trans ha
  exact absurd (Value.type.inj c) (by decide)
end

/-! ### pairs of numbers in order -/
abbrev lx (p q : Int × Int) : Bool := SrtO.lexB p q
def insP (p : Int × Int) : List (Int × Int) → List (Int × Int)
  | [] => [p]
  | q :: r => if lx q p = true then q :: insP p r else p :: q :: r
def sortP : List (Int × Int) → List (Int × Int)
  | [] => []
  | p :: r => insP p (sortP r)
/-- p is not above q -/
def leP (p q : Int × Int) : Prop := p.1 < q.1 ∨ (p.1 = q.1 ∧ p.2 ≤ q.2)
theorem leP_of {p q : Int × Int} (h : lx q p = false) : leP p q := by
  have := SrtO.lexB_no.mp h
  unfold leP
  omega
theorem leP_lt {p q : Int × Int} (h : lx p q = true) : leP p q := by
  have := SrtO.lexB_iff.mp h
  unfold leP
  omega
theorem leP.trans {p q r : Int × Int} (a : leP p q) (b : leP q r) : leP p r := by
  unfold leP at *
  omega
theorem leP.anti {p q : Int × Int} (a : leP p q) (b : leP q p) : p = q := by
  unfold leP at *
  exact Prod.ext (by omega) (by omega)
theorem insP_perm (p : Int × Int) : ∀ l, (insP p l).Perm (p :: l)
  | [] => .refl _
  | q :: r => by
    unfold insP
    split
    · exact ((insP_perm p r).cons q).trans (.swap ..)
    · exact .refl _
theorem insP_sorted (p : Int × Int) : ∀ l, l.Pairwise leP → (insP p l).Pairwise leP
  | [], _ => List.pairwise_singleton ..
  | q :: r, h => by
    have hq := List.pairwise_cons.mp h
    unfold insP
    split
    · rename_i hl
      refine List.pairwise_cons.mpr ⟨fun x hx => ?_, insP_sorted p r hq.2⟩
      rcases List.mem_cons.mp ((insP_perm p r).mem_iff.mp hx) with rfl | hx
      · exact leP_lt hl
      · exact hq.1 x hx
    · rename_i hl
      have hpq : leP p q := leP_of (by simpa using hl)
      refine List.pairwise_cons.mpr ⟨fun x hx => ?_, h⟩
      rcases List.mem_cons.mp hx with rfl | hx
      · exact hpq
      · exact hpq.trans (hq.1 x hx)
theorem sortP_perm : ∀ l, (sortP l).Perm l
  | [] => .refl _
  | p :: r => (insP_perm p _).trans ((sortP_perm r).cons p)
theorem sortP_sorted : ∀ l, (sortP l).Pairwise leP
  | [] => .nil
  | p :: r => insP_sorted p _ (sortP_sorted r)
theorem leP_uniq : ∀ {l m : List (Int × Int)}, l.Pairwise leP → m.Pairwise leP → l.Perm m → l = m
  | [], m, _, _, h => h.symm.eq_nil.symm
  | p :: l, [], _, _, h => absurd h.eq_nil (by simp)
  | p :: l, q :: m, hl, hm, h => by
    have e : p = q := by
      have h1 : p ∈ q :: m := h.mem_iff.mp List.mem_cons_self
      have h2 : q ∈ p :: l := h.mem_iff.mpr List.mem_cons_self
      rcases List.mem_cons.mp h1 with e | h1
      · exact e
      · rcases List.mem_cons.mp h2 with e | h2
        · exact e.symm
        · exact leP.anti ((List.pairwise_cons.mp hl).1 q h2) ((List.pairwise_cons.mp hm).1 p h1)
    subst e
    rw [leP_uniq (List.pairwise_cons.mp hl).2 (List.pairwise_cons.mp hm).2 h.cons_inv]
def All2 (Pr : V → Int × Int → Prop) : List V → List (Int × Int) → Prop
  | [], ps => ps = []
  | x :: xs, ps => ∃ p qs, ps = p :: qs ∧ Pr x p ∧ All2 Pr xs qs
def rSortP2 (K : PySem.W.Frag) : List V → Hp → VK → Prop := fun vs H Q => ∃ (a : Addr) (xs : List V) (ps : List (Int × Int)) (Pr : V → Int × Int → Prop), vs = [V.ref a] ∧ (SqL K H a xs ∨ SqT K H a xs) ∧ (∀ v p, Pr v p → ∃ t, v = .ref t ∧ SqT K H t [.int p.1, .int p.2]) ∧ All2 Pr xs ps ∧
  ∀ ys p, All2 Pr ys (sortP ps) → H p = none → Q (.ref p) (upd H p (.lst ys))
section
variable {X : Cx} {pins : List (Addr × Obj)} {σ : L2.St} {H : Hp} {s : Shared} {Pr : V → Int × Int → Prop}
theorem all2_mem : ∀ {xs : List V} {ps : List (Int × Int)}, All2 Pr xs ps → ∀ x ∈ xs, ∃ p, Pr x p
  | [], _, _, x, hx => by cases hx
  | y :: xs, ps, h, x, hx => by
    obtain ⟨p, qs, rfl, h1, h2⟩ := h
    rcases List.mem_cons.mp hx with rfl | hx
    · exact ⟨p, h1⟩
    · exact all2_mem h2 x hx
theorem all2_map {k : V → Int × Int} (hk : ∀ v p, Pr v p → k v = p) : ∀ {xs : List V} {ps : List (Int × Int)}, All2 Pr xs ps → xs.map k = ps
  | [], ps, h => by simpa [All2] using h.symm
  | y :: xs, ps, h => by
    obtain ⟨p, qs, rfl, h1, h2⟩ := h
    rw [List.map_cons, hk _ _ h1, all2_map hk h2]
theorem all2_of {k : V → Int × Int} : ∀ {xs : List V}, (∀ x ∈ xs, Pr x (k x)) → All2 Pr xs (xs.map k)
  | [], _ => rfl
  | y :: xs, h => ⟨k y, _, rfl, h y List.mem_cons_self, all2_of fun x hx => h x (List.mem_cons_of_mem _ hx)⟩
theorem cr_sortP2 : CallR X (.builtin "sorted") (rSortP2 X.K) := by
  intro pins s σ H vs us Q I r h
  obtain ⟨a, xs, ps, Pr, rfl, hs, hPr, hx, q⟩ := h
  obtain ⟨u, rfl, ru⟩ := vals1 r
  obtain rfl : u = Value.ref a := ru
  have uniq : ∀ v p p', Pr v p → Pr v p' → p = p' := fun v p p' h1 h2 => by
    obtain ⟨t, rfl, t1⟩ := hPr v p h1
    obtain ⟨t', e, t2⟩ := hPr _ p' h2
    cases e
    have := I.tuple_inj t1 t2
    simp only [List.cons.injEq, V.int.injEq, and_true] at this
    exact Prod.ext this.1 this.2
  let k : V → Int × Int := fun v => Classical.epsilon fun p => Pr v p
  have hk : ∀ v p, Pr v p → k v = p := fun v p h1 => uniq v _ p (Classical.epsilon_spec (p := fun p => Pr v p) ⟨p, h1⟩) h1
  have hk2 : ∀ x ∈ xs, Pr x (k x) := fun x hm => by
    obtain ⟨p, hp⟩ := all2_mem hx x hm
    rw [hk x p hp]
    exact hp
  have eps : xs.map k = ps := all2_map hk hx
  have main : ∀ (its : List Value), Vals xs its → (its.length ≤ sizeLine → (∀ v ∈ its, Srt.IsPair s.heap v (k (backV v)).1 (k (backV v)).2) →
      (∀ (h' : Heap) (d : Addr) (out : List Value), SrtO.Srtd (fun v u => SrtO.lexB (k (backV v)) (k (backV u))) out → SrtO.Stb (fun v u => SrtO.lexB (k (backV v)) (k (backV u))) out its → (∀ b o, s.heap.get? b = some o → h'.get? b = some o) → s.heap.objs.size ≤ d →
        (∃ n, h'.get? d = some (seqObj "list" out.toArray n)) → EP X pins σ Q (.ref d) { s with heap := h' }) → wpAny (model X.prog X.w) X.A (call (.builtin "sorted") [.ref a]) (EP X pins σ Q) X.xe s) → its.length ≤ sizeLine →
      wpAny (model X.prog X.w) X.A (call (.builtin "sorted") [.ref a]) (EP X pins σ Q) X.xe s := fun its rv go hz => by
    obtain ⟨e1, e2⟩ := refs_back rv fun x m => by
      obtain ⟨t, e, _⟩ := hPr x _ (hk2 x m)
      exact ⟨t, e⟩
    refine go hz (fun v hv => ?_) fun h' d out h1 h2 kp hd hn => ?_
    · obtain ⟨t, rfl⟩ := e2 v hv
      have hm : V.ref t ∈ xs := by
        rw [e1]
        exact List.mem_map.mpr ⟨_, hv, rfl⟩
      obtain ⟨t', e, ht⟩ := hPr _ _ (hk2 _ hm)
      cases e
      obtain ⟨its2, r2, ⟨o, ho, hc, n, hd⟩, _⟩ := I.tuple ht
      obtain ⟨u1, u2, rfl, ri, rj⟩ := vals2 r2
      obtain ⟨t1, rfl⟩ := ri
      obtain ⟨t2, rfl⟩ := rj
      exact ⟨t, o, t1, t2, n, rfl, ho, hc, hd⟩
    · have h3 : ∀ u ∈ out, ∃ a, u = Value.ref a := fun u hu => e2 u (h2.perm.mem_iff.mp hu)
      obtain ⟨n, hn⟩ := hn
      have hperm : ((out.map backV).map k).Perm ps := by
        rw [← eps, e1]
        exact (h2.perm.map backV).map k
      have hsrt : ((out.map backV).map k).Pairwise leP := by
        rw [List.map_map]
        refine List.pairwise_map.mpr (h1.imp fun {v u} z => ?_)
        exact leP_of z
      have es : (out.map backV).map k = sortP ps := leP_uniq hsrt (sortP_sorted ps) (hperm.trans (sortP_perm ps).symm)
      refine ⟨.ref d, upd H d (.lst (out.map backV)), I.laid (t' := s.toks) kp hd ⟨?_, out, n, vals_back h3, hn⟩, rfl, q _ d ?_ (I.hok.fresh hd)⟩
      · rw [List.length_map, h2.len]
        exact hz
      · rw [← es]
        refine all2_of fun x hxm => hk2 x ?_
        rw [e1]
        obtain ⟨v, hv, rfl⟩ := List.mem_map.mp hxm
        exact List.mem_map.mpr ⟨v, h2.perm.mem_iff.mp hv, rfl⟩
  rcases hs with hs | hs
  · obtain ⟨its, rv, hl, hz⟩ := I.list hs
    refine main its rv (fun hz hp hq => SrtO.sorted_pairsO (k := fun u => k (backV u)) hl.isList hz hp hq) (by rw [← rv.length]; exact hz)
  · obtain ⟨its, rv, hl, hz⟩ := I.tuple hs
    refine main its rv (fun hz hp hq => sortedPairsT (k := fun u => k (backV u)) hl hz hp hq) (by rw [← rv.length]; exact hz)
end
/-- pairs as they are told -/
def pairsL : List D → Option (List (Int × Int))
  | [] => some []
  | .tup [.int i, .int j] :: r => (match pairsL r with
    | some l => some ((i, j) :: l)
    | none => none)
  | _ => none
def tupP (p : Int × Int) : D := .tup [.int p.1, .int p.2]
def fSortP (h : AH) : List D → Option D
  | [x] => match seqX h x with
    | some xs => (match pairsL xs with
      | some ps => some (.lst ((sortP ps).map tupP))
      | none => none)
    | none => none
  | _ => none
theorem pairsL_ok {w : Wd} {c : Cf} : ∀ {xs : List D} {vs : List V} {ps : List (Int × Int)}, RepL w c xs vs → pairsL xs = some ps → All2 (fun v p => Rep w c (tupP p) v) vs ps
  | [], vs, ps, r, e => by
    cases e
    obtain rfl : vs = [] := by simpa [RepL] using r
    rfl
  | d :: xs, vs, ps, r, e => by
    simp only [RepL] at r
    obtain ⟨x, ys, rfl, r1, r2⟩ := r
    unfold pairsL at e
    split at e
    · rename_i z; cases z
    · rename_i i j r' z
      cases z
      split at e
      · rename_i l e2
        cases e
        exact ⟨_, _, rfl, r1, pairsL_ok r2 e2⟩
      · cases e
    · cases e
theorem all2_repL {w : Wd} {c : Cf} : ∀ {vs : List V} {ps : List (Int × Int)}, All2 (fun v p => Rep w c (tupP p) v) vs ps → RepL w c (ps.map tupP) vs
  | [], ps, h => by
    obtain rfl : ps = [] := h
    simp [RepL]
  | v :: vs, ps, h => by
    obtain ⟨p, qs, rfl, h1, h2⟩ := h
    exact ⟨v, vs, rfl, h1, all2_repL h2⟩
theorem n_sortP {w : Wd} : OpN w (rSortP2 w.K) fSortP := by
  intro c h H xs z vs Q R r e G
  unfold fSortP at e
  split at e
  · obtain ⟨v, rfl, rv⟩ := rpl1 r
    split at e
    · rename_i ys q
      split at e
      · rename_i ps q2
        cases e
        have sq : ∃ p vs, v = .ref p ∧ (SqL w.K H p vs ∨ SqT w.K H p vs) ∧ RepL w c ys vs := by
          unfold seqX at q
          split at q
          · rename_i zs q2
            cases q
            obtain ⟨a, us, rfl, t, rl⟩ := seqT_ok R rv q2
            exact ⟨a, us, rfl, .inr t, rl⟩
          · obtain ⟨a, us, rfl, t, rl⟩ := seqL_ok R rv q
            exact ⟨a, us, rfl, .inl t, rl⟩
        obtain ⟨a, us, rfl, t, rl⟩ := sq
        refine ⟨a, us, ps, fun v p => Rep w c (tupP p) v, rfl, t, fun v p rp => ?_, pairsL_ok rl q2, fun zs p hz hp => G.lst R (all2_repL hz) p hp⟩
        obtain ⟨t', ws, rfl, st, rw'⟩ := seqT_ok R (d := tupP p) rp rfl
        obtain ⟨x, y, rfl, rx, ry⟩ := rpl2 rw'
        obtain rfl := rp_int rx
        obtain rfl := rp_int ry
        exact ⟨t', rfl, st⟩
      · cases e
    · cases e
  · cases e
end MP
set_option Elab.async false
set_option linter.all false
set_option maxRecDepth 100000
set_option maxHeartbeats 6400000
/-! mirrors: sorted(set(numbers)) -/
namespace MP
open PySem PySem.Spec L2
open PyProof.Rows hiding St
abbrev noSet (w : World) : Obj := { cls := .type "set", dict := none, data := .set #[] 0 (.fresh 0 0 (!w.params.followText "set-order")) }
section
variable {P : Program} {w : World} {A : Around} {E : Value → Shared → Prop} {s : Shared}
theorem callSetL {l : Addr} {items : Array Value} (ns : List Int) {Q : Value → Shared → Prop} (hh : A.handled = none) (hl : s.heap.IsList l items) (hit : IntsAre items.toList ns) (hb : ns.length + 1 < scanBound)
    (h : ∀ (h' : Heap) (tk n : Nat), SetR w h' s.heap.objs.size (fun j => decide (j ∈ ns)) n → n ≤ ns.length → (∀ b o, s.heap.get? b = some o → h'.get? b = some o) → Q (.ref s.heap.objs.size) { s with heap := h', toks := tk }) :
    wpAny (model P w) A (call (.type "set") [.ref l]) Q E s := by
  have size : items.size = ns.length := (Array.length_toList (xs := items)).symm.trans (IntsAre.length hit)
  obtain ⟨mc, mt, hm⟩ := PySem.F.called_set.mro
  have p1 := PySem.F.called_set.made
  have p2 := PySem.F.called_set.sub
  have p3 := PySem.F.called_set.notType
  have p4 := PySem.F.called_set.canCreate
  have p5 := PySem.F.typeCall_set_1 (.ref l)
  refine wpAny_call (codeAny_of_tree ?_)
  show wpAny _ _ (callAny (.type "set") _) _ _ _
  refine wpAny_pure ⟨Code.quiet_builtin _ (by decide +kernel), codeAny_builtin PySem.F.entry_type_call ?_⟩
  rw [Around.under_plain (weight_type_call_type "set" [.ref l] []) rfl]
  repeat (any_goals (first | assumption | wp_step))
  refine codeAny_mono (code_set_led1 (.ref l) (E := E) (Q₁ := fun ob s1 => ob = .ref s.heap.objs.size ∧ s1 = { s with heap := s.heap.push (noSet w) }) ⟨rfl, rfl⟩) fun r s1 hr => ?_
  cases r with
  | error e => exact hr
  | ok fl =>
    cases fl with
    | ret ob =>
      obtain ⟨rfl, rfl⟩ := hr
      have at0 : (s.heap.push (noSet w)).get? s.heap.objs.size = some (noSet w) := Heap.get?_push_size _ rfl
      have isT : Shared.TypeIs { s with heap := s.heap.push (noSet w) } (.ref s.heap.objs.size) "set" := ⟨_, at0, rfl⟩
      have q1 := PySem.F.called_set.init.lookup
      have q2 := PySem.F.called_set.init.bind (.ref s.heap.objs.size)
      repeat (any_goals (first | assumption | wp_step))
      refine codeAny_mono (codeAny_call_builtin (R := wants (fun r s2 => r = .none ∧ ∃ h' tk n, s2 = { s with heap := h', toks := tk } ∧ SetR w h' s.heap.objs.size (fun j => decide (j ∈ ns)) n ∧ n ≤ ns.length ∧ (∀ b o, s.heap.get? b = some o → h'.get? b = some o)) E)
        PySem.F.called_set.init.plain PySem.F.entry_set_init (check_set_init_1 isT ?_)) fun r2 s2 hr2 => ?_
      · obtain ⟨ol, hol, hcl, nl, hdl⟩ := hl
        obtain ⟨oc, od, odt, osl⟩ := ol
        simp only at hcl hdl
        subst hcl hdl
        have ol1 : (s.heap.push (noSet w)).get? l = some { cls := .type "list", dict := od, data := .seq items nl, slots := osl } := Heap.get?_push_of_some _ hol
        have s1 := PySem.F.sub_list_set
        have s2 := PySem.F.sub_list_frozenset
        have s3 : (Value.type "list" == Value.type "dict") = false := by decide
        have L1 : (s.heap.push (noSet w)).IsList l items := ⟨_, ol1, rfl, nl, rfl⟩
        unfold Builtin.«set.__init__» noKeywords Builtin.Frozenset.updateFrom
        generalize hPI : pyIter = PI
        wp_walk
        subst hPI
        refine wpAny_pyIter_list L1 ?_
        refine wpAny_bind (wpAny_runValue ?_)
        have lt : l < s.heap.objs.size := Heap.lt_size hol
        have hh3 : A.in1.in1.in1.handled = none := by simp [hh]
        have sz1 : (s.heap.push (noSet w)).objs.size = s.heap.objs.size + 1 := Heap.size_push ..
        have ne1 : l ≠ (s.heap.push (noSet w)).objs.size := by
          rw [sz1]
          exact Nat.ne_of_lt (Nat.lt_succ_of_lt lt)
        have out1 : s.heap.objs.size ∉ [(s.heap.push (noSet w)).objs.size, l] := by
          rw [sz1]
          simp only [List.mem_cons, List.not_mem_nil, or_false, not_or]
          exact ⟨Nat.ne_of_lt (Nat.lt_succ_self _), Nat.ne_of_gt lt⟩
        have vals : ∀ (i : Nat) (v : Value), items[i]? = some v → ∃ k t, ns[i]? = some k ∧ v = .int k t := fun i v hv => by
          have hi : i < ns.length := by
            rw [← size]
            exact (Array.getElem?_eq_some_iff.mp hv).1
          obtain ⟨t, e⟩ := PyProof.Rows.IntsAre.int_at hit i v (by rw [Array.getElem?_toList]; exact hv)
          exact ⟨ns[i], t, List.getElem?_eq_getElem hi, by rw [e, List.getD_eq_getElem?_getD, List.getElem?_eq_getElem hi] <;> rfl⟩
        refine set_update_ints ((Walks.list hh3 _ l ne1 items).toS) s.heap.objs.size out1 ns size hb vals (items.size - 0) 0 _ (by omega) (Nat.zero_le _) ⟨⟨_, Heap.get?_push_size _ rfl, rfl, rfl⟩, L1.push _⟩ ?first0 ?rest0
        case first0 => exact ⟨0, Nat.le_refl 0, setR_new_at (Heap.get?_push_of_some _ at0)⟩
        case rest0 =>
          intro s' n' hmv hn hS
          obtain ⟨h', g2, d', tk', os'⟩ := s'
          obtain rfl : g2 = s.gens := hmv.gens
          obtain rfl : d' = s.drawn := hmv.drawn
          obtain rfl : os' = s.os := hmv.os
          show wpAny _ _ _ _ _ _
          refine wpAny_pure ?_
          show wpAny _ _ (ret Value.none) _ _ _
          rw [size] at hn
          refine wpAny_pure ⟨rfl, h', tk', n', rfl, hS, hn, fun b o e => ?_⟩
          have b0 : b < s.heap.objs.size := Heap.lt_size e
          refine hmv.heap b o ?_ (Heap.get?_push_of_some _ (Heap.get?_push_of_some _ e))
          rw [sz1]
          simp only [List.mem_cons, List.not_mem_nil, or_false, not_or]
          exact ⟨Nat.ne_of_lt b0, Nat.ne_of_lt (Nat.lt_succ_of_lt b0)⟩
      · cases r2 with
        | error e => exact hr2
        | ok f2 =>
          cases f2 with
          | ret u =>
            obtain ⟨rfl, h', tk, n, rfl, hS, hn, k⟩ := hr2
            repeat (any_goals (first | assumption | wp_step))
            exact h _ _ _ hS hn k
          | next => exact hr2.elim
          | brk => exact hr2.elim
          | cont => exact hr2.elim
    | next => exact hr.elim
    | brk => exact hr.elim
    | cont => exact hr.elim
end
end MP
set_option Elab.async false
set_option linter.all false
set_option maxRecDepth 100000
set_option maxHeartbeats 4000000
/-! mirrors: sorted(set(numbers)) as one -/
namespace MP
open PySem PySem.Spec L2
open PyProof.Rows hiding St

def insU (p : Int) : List Int → List Int
  | [] => [p]
  | q :: r => if q < p then q :: insU p r else if q = p then q :: r else p :: q :: r
def sortU : List Int → List Int
  | [] => []
  | p :: r => insU p (sortU r)
theorem insU_mem (p k : Int) : ∀ l, k ∈ insU p l ↔ k = p ∨ k ∈ l
  | [] => by simp [insU]
  | q :: r => by
    unfold insU
    split
    · rw [List.mem_cons, insU_mem p k r, List.mem_cons]
      constructor
      · rintro (h | h | h)
        · exact .inr (.inl h)
        · exact .inl h
        · exact .inr (.inr h)
      · rintro (h | h | h)
        · exact .inr (.inl h)
        · exact .inl h
        · exact .inr (.inr h)
    · split
      · rename_i e
        rw [e, List.mem_cons]
        constructor
        · exact fun h => .inr h
        · rintro (h | h)
          · exact .inl h
          · exact h
      · rw [List.mem_cons]
theorem insU_sorted (p : Int) : ∀ l, l.Pairwise (· < ·) → (insU p l).Pairwise (· < ·)
  | [], _ => List.pairwise_singleton ..
  | q :: r, h => by
    have hq := List.pairwise_cons.mp h
    unfold insU
    split
    · rename_i hl
      refine List.pairwise_cons.mpr ⟨fun x hx => ?_, insU_sorted p r hq.2⟩
      rcases (insU_mem p x r).mp hx with rfl | hx
      · exact hl
      · exact hq.1 x hx
    · split
      · exact h
      · rename_i h1 h2
        refine List.pairwise_cons.mpr ⟨fun x hx => ?_, h⟩
        rcases List.mem_cons.mp hx with rfl | hx
        · omega
        · have := hq.1 x hx
          omega
theorem sortU_mem (k : Int) : ∀ l, k ∈ sortU l ↔ k ∈ l
  | [] => by simp [sortU]
  | p :: r => by rw [sortU, insU_mem, sortU_mem k r, List.mem_cons]
theorem sortU_sorted : ∀ l, (sortU l).Pairwise (· < ·)
  | [] => .nil
  | p :: r => insU_sorted p _ (sortU_sorted r)
theorem lt_uniq : ∀ {l m : List Int}, l.Pairwise (· < ·) → m.Pairwise (· < ·) → (∀ k, k ∈ l ↔ k ∈ m) → l = m
  | [], [], _, _, _ => rfl
  | [], q :: m, _, _, h => absurd ((h q).mpr List.mem_cons_self) (by simp)
  | p :: l, [], _, _, h => absurd ((h p).mp List.mem_cons_self) (by simp)
  | p :: l, q :: m, hl, hm, h => by
    have l1 := List.pairwise_cons.mp hl
    have m1 := List.pairwise_cons.mp hm
    have e : p = q := by
      rcases List.mem_cons.mp ((h p).mp List.mem_cons_self) with e | h1
      · exact e
      · rcases List.mem_cons.mp ((h q).mpr List.mem_cons_self) with e | h2
        · exact e.symm
        · have a := m1.1 p h1
          have b := l1.1 q h2
          omega
    subst e
    rw [lt_uniq l1.2 m1.2 fun k => ?_]
    constructor
    · intro hk
      rcases List.mem_cons.mp ((h k).mp (List.mem_cons_of_mem _ hk)) with e | z
      · have := l1.1 k hk
        omega
      · exact z
    · intro hk
      rcases List.mem_cons.mp ((h k).mpr (List.mem_cons_of_mem _ hk)) with e | z
      · have := m1.1 k hk
        omega
      · exact z
def rSetL2 (K : PySem.W.Frag) (w : World) : List V → Hp → VK → Prop := fun vs H Q => ∃ (a : Addr) (ns : List Int), vs = [V.ref a] ∧ SqL K H a (ns.map V.int) ∧ ns.length + 1 < scanBound ∧
  ∀ p n, n ≤ ns.length → H p = none → Q (.ref p) (upd H p (SetO w p (fun j => decide (j ∈ ns)) n))
theorem cr_setL2 {X : Cx} (hc : X.calm = true) : CallR X (.type "set") (rSetL2 X.K X.w) := by
  intro pins s σ H vs us Q I r h
  obtain ⟨a, ns, rfl, hs, hb, q⟩ := h
  obtain ⟨u, rfl, ru⟩ := vals1 r
  obtain rfl : u = Value.ref a := ru
  obtain ⟨its, rv, hl, hz⟩ := I.list hs
  refine callSetL (P := X.prog) ns (I.ok.hd hc) hl.isList (by simpa using ints_of_vals rv) hb fun h' tk n hS hn hk => ?_
  exact ⟨.ref s.heap.objs.size, _, I.laid (t' := tk) hk (Nat.le_refl _) (setO_new hS), rfl, q _ n hn (I.hok.fresh (Nat.le_refl _))⟩
def fSortSet (h : AH) : List D → Option D
  | [x] => match seqL h x with
    | some xs => (match intsL xs with
      | some ns => if ns.length < 64 then some (.lst ((sortU ns).map .int)) else none
      | none => none)
    | none => none
  | _ => none
theorem repL_ints {w : Wd} {c : Cf} : ∀ ns : List Int, RepL w c (ns.map .int) (ns.map V.int)
  | [] => by simp [RepL]
  | n :: ns => ⟨_, _, rfl, by simp [Rep], repL_ints ns⟩
section
variable {X : Cx} {T : Nat → Addr} {W : WX} {e : Expr} {ms : MA} {pos pos2 p p2 : Pos}
theorem r_sortSet (hc : X.calm = true) (hm : X.mg "sorted" = none) (hm2 : X.mg "set" = none) (ha : PA X [e] (tA (Wd.mk X.K T) W ms)) (hg : Gl X "sorted" := by rfl) (hg2 : Gl X "set" := by rfl)
    (he : starEach [.Call (.Name "set" p2) [e] [] pos2] X.env = (false, eval (.Call (.Name "set" p2) [e] [] pos2) X.env) :: starEach [] X.env := by rfl) (hpl : (backTo pos (starEach [] X.env)).any (·.1) = false := by rfl)
    (he2 : starEach [e] X.env = (false, eval e X.env) :: starEach [] X.env := by rfl) (hpl2 : (backTo pos2 (starEach [] X.env)).any (·.1) = false := by rfl) :
    PE X (.Call (.Name "sorted" p) [.Call (.Name "set" p2) [e] [] pos2] [] pos) (tM (Wd.mk X.K T) W (eFn fSortSet ms)) :=
  PEi (pe_callB (cr_sortedSet hc) hg hm PyProof.Rows.boot_sorted (pa_cons (pe_callTy (cr_setL2 hc) hg2 hm2 PyProof.Rows.boot_set ha (by decide) (by decide) he2 hpl2) pa_nil he) (by decide) (by decide) he hpl) fun σ H Q z => oneA (f := fun _ xs h1 => optR (fSortSet h1 xs) h1) z fun c2 s h2 H2 x v R2 S2 r1 o => by
    obtain ⟨d, q, G⟩ := optOut o
    unfold fSortSet at q
    split at q
    · obtain ⟨v, rfl, rv⟩ := rpl1 r1
      split at q
      · rename_i ys q1
        split at q
        · rename_i ns q2
          split at q
          · rename_i h64
            cases q
            obtain ⟨a, us, rfl, t, rl⟩ := seqL_ok R2 rv q1
            refine ⟨a, ns, rfl, by rw [← intsL_ok rl q2]; exact t, Nat.lt_of_le_of_lt (show ns.length + 1 ≤ 64 by omega) (by decide), fun p n hn hp => ?_⟩
            refine ⟨p, _, n, rfl, upd_same, by omega, fun ns' p' hs hm hl hp' => ?_⟩
            obtain rfl : ns' = sortU ns := lt_uniq hs (sortU_sorted ns) fun k => by rw [hm k, sortU_mem, decide_eq_true_eq]
            have hR := R2.priv (o := SetO (X.w) p (fun j => decide (j ∈ ns)) n) (R2.gfree hp)
            obtain ⟨R3, E3⟩ := hR.lay (u := .lst ((sortU ns).map V.int)) (p := p') (H' := upd (upd H2 p (SetO (X.w) p (fun j => decide (j ∈ ns)) n)) p' (.lst ((sortU ns).map V.int))) hp' (fun a v e => (upd_ne (ne_of_none e hp')).trans e) upd_same
            refine G _ _ _ R3 ((Ext.priv (.refl R2.sub) hp).trans E3) ?_
            simp only [Rep]
            exact ⟨p', _, rfl, ⟨upd_same, hR.noidNew hp'⟩, repL_ints _⟩
          · cases q
        · cases q
      · cases q
    · cases q
end
end MP
set_option Elab.async false
set_option linter.all false
set_option maxRecDepth 100000
set_option maxHeartbeats 4000000
/-! mirrors: () as a default -/
namespace MP
open PySem PySem.Spec L2
open PyProof.Rows hiding St
/-- where a keyword-only parameter's default lies -/
def kwAt (p : Str × Option Str) (x : Str) (K : PySem.W.Frag) : Addr := match K.lookup (He.fAd K p) with
  | some ⟨_, _, .func fd, _⟩ => (match fd.kwdefaults with
    | .ref d => (match PySem.W.nsIn K d x with
      | some (some (.ref a)) => a
      | _ => 0)
    | _ => 0)
  | _ => 0
theorem tup0_ok {K : PySem.W.Frag} {a : Addr} (h : tup0B K a = true) (H : Hp) : SqT K H a [] := by
  unfold tup0B at h
  split at h
  · rename_i c od its n sl e
    obtain ⟨h1, h2⟩ := Bool.and_eq_true_iff.mp h
    have hc := of_decide_eq_true h1
    have hi : its = #[] := Array.isEmpty_iff.mp h2
    subst hc hi
    exact .inr ⟨_, #[], n, e, rfl, rfl, Nat.zero_le _, .nil⟩
  · cases h
theorem rc_tup0 {K : PySem.W.Frag} {T : Nat → Addr} {a : Addr} (h : tup0B K a = true) (c : Cf) : Rep ⟨K, T⟩ c (.tup []) (.ref a) := by
  simp only [Rep]
  exact ⟨a, [], rfl, .inr (tup0_ok h _), rfl⟩
end MP
set_option Elab.async false
set_option linter.all false
set_option maxRecDepth 100000
/-! pools: the fewest stretches, plainly -/
namespace MP
abbrev PRow := Int × Int
def has (l : List PRow) (x : Int) : Prop := ∃ p ∈ l, p.1 ≤ x ∧ x ≤ p.2
/-- rising, apart, none empty -/
def Canon (l : List PRow) : Prop := l.Pairwise (fun p q => p.2 + 1 < q.1) ∧ ∀ p ∈ l, p.1 ≤ p.2
def Val (l : List PRow) : Prop := ∀ p ∈ l, p.1 ≤ p.2
/-- where a stretch begins -/
theorem low_iff {l : List PRow} (v : Val l) (k : Int) : (has l k ∧ ¬ has l (k - 1)) ↔ (∃ p ∈ l, p.1 = k) ∧ ¬ has l (k - 1) := by
  constructor
  · rintro ⟨⟨p, hp, h1, h2⟩, h3⟩
    refine ⟨⟨p, hp, ?_⟩, h3⟩
    by_cases h : p.1 = k
    · exact h
    · exact absurd ⟨p, hp, by omega, by omega⟩ h3
  · rintro ⟨⟨p, hp, rfl⟩, h3⟩
    exact ⟨⟨p, hp, Int.le_refl _, v p hp⟩, h3⟩
theorem high_iff {l : List PRow} (v : Val l) (k : Int) : (has l k ∧ ¬ has l (k + 1)) ↔ (∃ p ∈ l, p.2 = k) ∧ ¬ has l (k + 1) := by
  constructor
  · rintro ⟨⟨p, hp, h1, h2⟩, h3⟩
    refine ⟨⟨p, hp, ?_⟩, h3⟩
    by_cases h : p.2 = k
    · exact h
    · exact absurd ⟨p, hp, by omega, by omega⟩ h3
  · rintro ⟨⟨p, hp, rfl⟩, h3⟩
    exact ⟨⟨p, hp, v p hp, Int.le_refl _⟩, h3⟩
theorem canon_apart : ∀ {l : List PRow}, Canon l → ∀ p ∈ l, ∀ q ∈ l, p = q ∨ p.2 + 1 < q.1 ∨ q.2 + 1 < p.1
  | [], _, p, hp, _, _ => by cases hp
  | r :: l, ⟨h, v⟩, p, hp, q, hq => by
    have h1 := List.pairwise_cons.mp h
    rcases List.mem_cons.mp hp with e | hp
    · rcases List.mem_cons.mp hq with e2 | hq
      · exact .inl (e.trans e2.symm)
      · exact .inr (.inl (e ▸ h1.1 q hq))
    · rcases List.mem_cons.mp hq with e2 | hq
      · exact .inr (.inr (e2 ▸ h1.1 p hp))
      · exact canon_apart ⟨h1.2, fun p hp => v p (List.mem_cons_of_mem _ hp)⟩ p hp q hq
theorem canon_low {l : List PRow} (c : Canon l) {p : PRow} (hp : p ∈ l) : ¬ has l (p.1 - 1) := by
  rintro ⟨q, hq, h1, h2⟩
  have hv := c.2 p hp
  have hw := c.2 q hq
  rcases canon_apart c p hp q hq with rfl | h | h <;> omega
theorem canon_high {l : List PRow} (c : Canon l) {p : PRow} (hp : p ∈ l) : ¬ has l (p.2 + 1) := by
  rintro ⟨q, hq, h1, h2⟩
  have hv := c.2 p hp
  have hw := c.2 q hq
  rcases canon_apart c p hp q hq with rfl | h | h <;> omega
theorem canon_fst {l : List PRow} (c : Canon l) : (l.map (·.1)).Pairwise (· < ·) := by
  refine List.pairwise_map.mpr ?_
  refine List.Pairwise.imp_of_mem ?_ c.1
  intro p q hp _ h
  have := c.2 p hp
  omega
theorem canon_snd {l : List PRow} (c : Canon l) : (l.map (·.2)).Pairwise (· < ·) := by
  refine List.pairwise_map.mpr ?_
  refine List.Pairwise.imp_of_mem ?_ c.1
  intro p q _ hq h
  have := c.2 q hq
  omega
/-- the lows that have no number left of them, the highs that have none right of them -/
def hasB (l : List PRow) (x : Int) : Bool := l.any fun p => decide (p.1 ≤ x ∧ x ≤ p.2)
theorem hasB_iff (l : List PRow) (x : Int) : hasB l x = true ↔ has l x := by
  unfold hasB has
  rw [List.any_eq_true]
  constructor
  · rintro ⟨p, hp, h⟩
    exact ⟨p, hp, of_decide_eq_true h⟩
  · rintro ⟨p, hp, h⟩
    exact ⟨p, hp, decide_eq_true h⟩
def lows (l : List PRow) : List Int := (l.filter fun p => !hasB l (p.1 - 1)).map (·.1)
def highs (l : List PRow) : List Int := (l.filter fun p => !hasB l (p.2 + 1)).map (·.2)
def fw (l : List PRow) : List PRow := (sortU (lows l)).zip (sortU (highs l))
theorem lows_mem {l : List PRow} (v : Val l) (k : Int) : k ∈ lows l ↔ has l k ∧ ¬ has l (k - 1) := by
  rw [low_iff v]
  unfold lows
  simp only [List.mem_map, List.mem_filter, Bool.not_eq_true', ← Bool.not_eq_true, hasB_iff]
  constructor
  · rintro ⟨p, ⟨hp, h⟩, rfl⟩
    exact ⟨⟨p, hp, rfl⟩, h⟩
  · rintro ⟨⟨p, hp, rfl⟩, h⟩
    exact ⟨p, ⟨hp, h⟩, rfl⟩
theorem highs_mem {l : List PRow} (v : Val l) (k : Int) : k ∈ highs l ↔ has l k ∧ ¬ has l (k + 1) := by
  rw [high_iff v]
  unfold highs
  simp only [List.mem_map, List.mem_filter, Bool.not_eq_true', ← Bool.not_eq_true, hasB_iff]
  constructor
  · rintro ⟨p, ⟨hp, h⟩, rfl⟩
    exact ⟨⟨p, hp, rfl⟩, h⟩
  · rintro ⟨⟨p, hp, rfl⟩, h⟩
    exact ⟨p, ⟨hp, h⟩, rfl⟩
/-- of the same numbers: the fewest are the canonical ones -/
theorem fw_eq {l m : List PRow} (v : Val l) (c : Canon m) (e : ∀ x, has l x ↔ has m x) : fw l = m := by
  have h1 : sortU (lows l) = m.map (·.1) := lt_uniq (sortU_sorted _) (canon_fst c) fun k => by
    rw [sortU_mem, lows_mem v, e, e, low_iff c.2, List.mem_map]
    constructor
    · rintro ⟨⟨p, hp, h⟩, _⟩
      exact ⟨p, hp, h⟩
    · rintro ⟨p, hp, rfl⟩
      exact ⟨⟨p, hp, rfl⟩, canon_low c hp⟩
  have h2 : sortU (highs l) = m.map (·.2) := lt_uniq (sortU_sorted _) (canon_snd c) fun k => by
    rw [sortU_mem, highs_mem v, e, e, high_iff c.2, List.mem_map]
    constructor
    · rintro ⟨⟨p, hp, h⟩, _⟩
      exact ⟨p, hp, h⟩
    · rintro ⟨p, hp, rfl⟩
      exact ⟨⟨p, hp, rfl⟩, canon_high c hp⟩
  unfold fw
  rw [h1, h2]
  clear h1 h2 e v c
  induction m with
  | nil => rfl
  | cons p m ih => simp only [List.map_cons, List.zip_cons_cons, ih]
/-- one stretch more -/
def mstep (acc : List PRow) (p : PRow) : List PRow := match acc[acc.length - 1]? with
  | some q => if p.1 ≤ q.2 + 1 then acc.set (acc.length - 1) (q.1, if p.2 > q.2 then p.2 else q.2) else acc ++ [p]
  | none => [p]
theorem mstep_nil (p : PRow) : mstep [] p = [p] := rfl
theorem mstep_snoc (i : List PRow) (q p : PRow) : mstep (i ++ [q]) p = if p.1 ≤ q.2 + 1 then i ++ [(q.1, if p.2 > q.2 then p.2 else q.2)] else i ++ [q] ++ [p] := by
  unfold mstep
  have e : (i ++ [q]).length - 1 = i.length := by simp
  rw [e]
  simp only [List.getElem?_append_right (Nat.le_refl i.length), Nat.sub_self, List.getElem?_cons_zero]
  split
  · rw [List.set_append_right _ _ (Nat.le_refl _), Nat.sub_self]
    rfl
  · rfl
theorem has_append {l m : List PRow} {x : Int} : has (l ++ m) x ↔ has l x ∨ has m x := by
  unfold has
  constructor
  · rintro ⟨p, hp, h⟩
    rcases List.mem_append.mp hp with hp | hp
    · exact .inl ⟨p, hp, h⟩
    · exact .inr ⟨p, hp, h⟩
  · rintro (⟨p, hp, h⟩ | ⟨p, hp, h⟩)
    · exact ⟨p, List.mem_append_left _ hp, h⟩
    · exact ⟨p, List.mem_append_right _ hp, h⟩
theorem has_one {p : PRow} {x : Int} : has [p] x ↔ p.1 ≤ x ∧ x ≤ p.2 := by
  unfold has
  constructor
  · rintro ⟨q, hq, h⟩
    rw [List.mem_singleton.mp hq] at h
    exact h
  · exact fun h => ⟨p, List.mem_singleton_self _, h⟩
theorem canon_snoc {i : List PRow} {q : PRow} : Canon (i ++ [q]) ↔ Canon i ∧ q.1 ≤ q.2 ∧ ∀ p ∈ i, p.2 + 1 < q.1 := by
  unfold Canon
  rw [List.pairwise_append]
  constructor
  · rintro ⟨⟨h1, _, h3⟩, h4⟩
    exact ⟨⟨h1, fun p hp => h4 p (List.mem_append_left _ hp)⟩, h4 q (by simp), fun p hp => h3 p hp q (by simp)⟩
  · rintro ⟨⟨h1, h2⟩, h3, h4⟩
    refine ⟨⟨h1, List.pairwise_singleton .., fun p hp r hr => ?_⟩, fun p hp => ?_⟩
    · rw [List.mem_singleton.mp hr]
      exact h4 p hp
    · rcases List.mem_append.mp hp with hp | hp
      · exact h2 p hp
      · rw [List.mem_singleton.mp hp]
        exact h3
/-- all of a canonical list lie at its last one's begin or ahead of it -/
def Ahead (acc : List PRow) (p : PRow) : Prop := ∀ q ∈ acc, q.1 ≤ p.1
theorem mstep_ok {acc : List PRow} {p : PRow} (c : Canon acc) (a : Ahead acc p) (hp : p.1 ≤ p.2) : Canon (mstep acc p) ∧ (∀ x, has (mstep acc p) x ↔ has acc x ∨ has [p] x) ∧ ∀ r, p.1 ≤ r.1 → Ahead (mstep acc p) r := by
  rcases List.eq_nil_or_concat acc with rfl | ⟨i, q, rfl⟩
  · rw [mstep_nil]
    refine ⟨⟨List.pairwise_singleton .., fun r hr => by rw [List.mem_singleton.mp hr]; exact hp⟩, fun x => ?_, fun r hr s hs => by rw [List.mem_singleton.mp hs]; exact hr⟩
    constructor
    · exact fun h => .inr h
    · rintro (⟨_, h, _⟩ | h)
      · cases h
      · exact h
  · rw [List.concat_eq_append] at c a ⊢
    rw [mstep_snoc]
    obtain ⟨c1, c2, c3⟩ := canon_snoc.mp c
    have hq : q.1 ≤ p.1 := a q (by simp)
    split
    · rename_i hm
      refine ⟨canon_snoc.mpr ⟨c1, by dsimp only; split <;> omega, c3⟩, fun x => ?_, fun r hr s hs => ?_⟩
      · rw [has_append, has_append, has_one, has_one, has_one]
        dsimp only
        constructor
        · rintro (h | ⟨h1, h2⟩)
          · exact .inl (.inl h)
          · split at h2
            · by_cases z : x ≤ q.2
              · exact .inl (.inr ⟨h1, z⟩)
              · exact .inr ⟨by omega, h2⟩
            · exact .inl (.inr ⟨h1, h2⟩)
        · rintro ((h | ⟨h1, h2⟩) | ⟨h1, h2⟩)
          · exact .inl h
          · exact .inr ⟨h1, by split <;> omega⟩
          · exact .inr ⟨by omega, by split <;> omega⟩
      · rcases List.mem_append.mp hs with hs | hs
        · have := c3 s hs
          have := c1.2 s hs
          omega
        · rw [List.mem_singleton.mp hs]
          dsimp only
          omega
    · rename_i hm
      refine ⟨canon_snoc.mpr ⟨c, hp, fun s hs => ?_⟩, fun x => has_append, fun r hr s hs => ?_⟩
      · rcases List.mem_append.mp hs with hs | hs
        · have := c3 s hs
          omega
        · rw [List.mem_singleton.mp hs]
          omega
      · rcases List.mem_append.mp hs with hs | hs
        · have := a s hs
          omega
        · rw [List.mem_singleton.mp hs]
          exact hr
def merge (l : List PRow) : List PRow := l.foldl mstep []
theorem merge_go : ∀ (l acc : List PRow), Canon acc → (∀ p ∈ l, Ahead acc p) → Val l → l.Pairwise leP → Canon (l.foldl mstep acc) ∧ ∀ x, has (l.foldl mstep acc) x ↔ has acc x ∨ has l x
  | [], acc, c, _, _, _ => ⟨c, fun x => ⟨fun h => .inl h, fun h => h.elim id fun ⟨_, z, _⟩ => by cases z⟩⟩
  | p :: l, acc, c, a, v, s => by
    have s1 := List.pairwise_cons.mp s
    obtain ⟨m1, m2, m3⟩ := mstep_ok c (a p List.mem_cons_self) (v p List.mem_cons_self)
    obtain ⟨r1, r2⟩ := merge_go l (mstep acc p) m1 (fun q hq => m3 q (by have := s1.1 q hq; unfold leP at this; omega)) (fun q hq => v q (List.mem_cons_of_mem _ hq)) s1.2
    refine ⟨r1, fun x => ?_⟩
    rw [List.foldl_cons, r2, m2, or_assoc, ← has_append]
    rfl
theorem merge_eq {l : List PRow} (v : Val l) : merge (sortP l) = fw l := by
  have v2 : Val (sortP l) := fun p hp => v p ((sortP_perm l).mem_iff.mp hp)
  obtain ⟨c, e⟩ := merge_go (sortP l) [] ⟨.nil, fun _ h => by cases h⟩ (fun _ _ q hq => by cases hq) v2 (sortP_sorted l)
  refine (fw_eq v c fun x => ?_).symm
  rw [e]
  constructor
  · rintro ⟨p, hp, h⟩
    exact .inr ⟨p, (sortP_perm l).mem_iff.mpr hp, h⟩
  · rintro (⟨_, h, _⟩ | ⟨p, hp, h⟩)
    · cases h
    · exact ⟨p, (sortP_perm l).mem_iff.mp hp, h⟩
theorem fw_canon {l : List PRow} (v : Val l) : Canon (fw l) := by
  rw [← merge_eq v]
  have v2 : Val (sortP l) := fun p hp => v p ((sortP_perm l).mem_iff.mp hp)
  exact (merge_go (sortP l) [] ⟨.nil, fun _ h => by cases h⟩ (fun _ _ q hq => by cases hq) v2 (sortP_sorted l)).1
theorem fw_has {l : List PRow} (v : Val l) (x : Int) : has (fw l) x ↔ has l x := by
  have v2 : Val (sortP l) := fun p hp => v p ((sortP_perm l).mem_iff.mp hp)
  rw [← merge_eq v, (show merge (sortP l) = (sortP l).foldl mstep [] from rfl), (merge_go (sortP l) [] ⟨.nil, fun _ h => by cases h⟩ (fun _ _ q hq => by cases hq) v2 (sortP_sorted l)).2]
  constructor
  · rintro (⟨_, h, _⟩ | ⟨p, hp, h⟩)
    · cases h
    · exact ⟨p, (sortP_perm l).mem_iff.mp hp, h⟩
  · rintro ⟨p, hp, h⟩
    exact .inr ⟨p, (sortP_perm l).mem_iff.mpr hp, h⟩
end MP
set_option Elab.async false
set_option linter.all false
set_option maxRecDepth 100000
set_option maxHeartbeats 4000000
/-! mirrors: comprehensions and loops that change nothing, plainly -/
namespace MP
open PySem PySem.Spec L2
theorem compL_map {α : Type} {ok : AH → Bool} {own : List Nat} {g : CT} {t : MT} {e : ME} {s : Sl} {h : AH} (k : α → D) (p : α → Bool) (f : α → D) (hok : ok h = true) :
    ∀ (as : List α) (acc : List D), (∀ a ∈ as, ∃ s1, g.set (k a) (wipeD s own) = some s1 ∧ t s1 h = .ok (p a) h ∧ (p a = true → e s1 h = .ok (f a) h)) → acc.length + as.length ≤ 100000 →
      compL ok own g t e (as.map k) s h acc = .ok (acc ++ (as.filter p).map f) h
  | [], acc, _, _ => by simp [compL, hok]
  | a :: as, acc, st, hl => by
    obtain ⟨s1, e1, e2, e3⟩ := st a List.mem_cons_self
    have ih := fun acc' => compL_map (ok := ok) (own := own) (g := g) (t := t) (e := e) (s := s) (h := h) k p f hok as acc' fun b hb => st b (List.mem_cons_of_mem _ hb)
    rw [List.length_cons] at hl
    simp only [List.map_cons, compL, hok, if_pos, e1, e2]
    cases hp : p a with
    | true =>
      simp only [if_pos, e3 hp, if_pos (show acc.length < 100000 by omega)]
      rw [ih (acc ++ [f a]) (by simp; omega), List.filter_cons_of_pos hp]
      simp
    | false =>
      simp only [Bool.false_eq_true, if_false]
      rw [ih acc (by omega), List.filter_cons_of_neg (by simp [hp])]
theorem blsL_map {α : Type} (q : α → Bool) (as : List α) : blsL (as.map fun a => .bl (q a)) = some (as.map q) := by
  induction as with
  | nil => rfl
  | cons a as ih => simp only [List.map_cons, blsL, ih]
theorem intsL_mapf {α : Type} (q : α → Int) (as : List α) : intsL (as.map fun a => .int (q a)) = some (as.map q) := by
  induction as with
  | nil => rfl
  | cons a as ih => simp only [List.map_cons, intsL, ih]
theorem pairsL_map (ps : List PRow) : pairsL (ps.map tupP) = some ps := by
  induction ps with
  | nil => rfl
  | cons p ps ih => simp only [List.map_cons, tupP, pairsL, ih]
theorem filter_true {α : Type} (as : List α) : as.filter (fun _ => true) = as := by
  induction as with
  | nil => rfl
  | cons a as ih => simp [ih]
theorem zipD_ints (xs ys : List Int) : zipD (xs.map .int) (ys.map .int) = (xs.zip ys).map tupP := by
  unfold zipD
  rw [List.zip_map, List.map_map]
  rfl
theorem kc0 : ((0 : Nat) : Int) = 0 := rfl
theorem kc1 : ((1 : Nat) : Int) = 1 := rfl
theorem kc2 : ((2 : Nat) : Int) = 2 := rfl
theorem kc3 : ((3 : Nat) : Int) = 3 := rfl
theorem kc4 : ((4 : Nat) : Int) = 4 := rfl
theorem kc5 : ((5 : Nat) : Int) = 5 := rfl
theorem kc6 : ((6 : Nat) : Int) = 6 := rfl
theorem kc7 : ((7 : Nat) : Int) = 7 := rfl
theorem kc8 : ((8 : Nat) : Int) = 8 := rfl
theorem kc9 : ((9 : Nat) : Int) = 9 := rfl
theorem kc10 : ((10 : Nat) : Int) = 10 := rfl
theorem kc11 : ((11 : Nat) : Int) = 11 := rfl
theorem kc12 : ((12 : Nat) : Int) = 12 := rfl
theorem kc13 : ((13 : Nat) : Int) = 13 := rfl
theorem kc14 : ((14 : Nat) : Int) = 14 := rfl
theorem kc15 : ((15 : Nat) : Int) = 15 := rfl
theorem kc16 : ((16 : Nat) : Int) = 16 := rfl
theorem kc17 : ((17 : Nat) : Int) = 17 := rfl
theorem kc18 : ((18 : Nat) : Int) = 18 := rfl
theorem kc19 : ((19 : Nat) : Int) = 19 := rfl
theorem kc20 : ((20 : Nat) : Int) = 20 := rfl

/-! ### rows as data -/
def rowPD (p : PRow) : PyData := .tuple [.int p.1, .int p.2]
theorem pdL_rows (ps : List PRow) : pdL (ps.map tupP) = some (ps.map rowPD) := by
  induction ps with
  | nil => rfl
  | cons p ps ih =>
    simp only [List.map_cons, pdL, ih]
    rfl
theorem lay_rows (ps : List PRow) : PyData.canLayAll0 (ps.map rowPD) = true := by
  induction ps with
  | nil => simp [PyData.canLayAll0]
  | cons p ps ih => simp [PyData.canLayAll0, rowPD, PyData.canLay0, ih]
theorem depth_rows (ps : List PRow) : PyData.depthAll (ps.map rowPD) ≤ 1 := by
  induction ps with
  | nil => simp [PyData.depthAll]
  | cons p ps ih =>
    have e : PyData.depth (rowPD p) = 1 := by simp [rowPD, PyData.depth, PyData.depthAll]
    simp only [List.map_cons, PyData.depthAll, e]
    omega
theorem shaped_rowsL (ps : List PRow) : SeqAt.shaped (.list (ps.map rowPD)) = true := by
  have := depth_rows ps
  simp only [SeqAt.shaped, PyData.canLay0, lay_rows, PyData.depth, Bool.true_and, decide_eq_true_eq]
  exact decide_eq_true (by omega)
theorem shaped_rowsT (ps : List PRow) : SeqAt.shaped (.tuple (ps.map rowPD)) = true := by
  have := depth_rows ps
  simp only [SeqAt.shaped, PyData.canLay0, lay_rows, PyData.depth, Bool.true_and, decide_eq_true_eq]
  exact decide_eq_true (by omega)
theorem eqb_nilL {h : AH} {b : Nat} {ps : List PRow} (e : h.g b = some (.lst (ps.map tupP))) : pEqB h (.ref b) (.lst []) = some ps.isEmpty := by
  have h1 : pd h (.ref b) = some (.list (ps.map rowPD)) := by simp only [pd, e, pdL_rows]
  have h2 : pd h (.lst []) = some (.list []) := rfl
  have h3 : SeqAt.shaped (.list []) = true := shaped_rowsL []
  have h4 : sEq (.ref b) (.lst []) = none := rfl
  unfold pEqB
  rw [h4]
  simp only [h1, h2]
  rw [if_pos ⟨shaped_rowsL ps, h3⟩]
  cases ps with
  | nil => simp [PyData.eqv, PyData.eqvAll]
  | cons p ps => simp [PyData.eqv, PyData.eqvAll]
theorem eqb_nilT {h : AH} {ps : List PRow} : pEqB h (.tup (ps.map tupP)) (.tup []) = some ps.isEmpty := by
  have h1 : pd h (.tup (ps.map tupP)) = some (.tuple (ps.map rowPD)) := by simp only [pd, pdI, pdL_rows]
  have h2 : pd h (.tup []) = some (.tuple []) := rfl
  have h3 : SeqAt.shaped (.tuple []) = true := shaped_rowsT []
  have h4 : sEq (.tup (ps.map tupP)) (.tup []) = none := rfl
  unfold pEqB
  rw [h4]
  simp only [h1, h2]
  rw [if_pos ⟨shaped_rowsT ps, h3⟩]
  cases ps with
  | nil => simp [PyData.eqv, PyData.eqvAll]
  | cons p ps => simp [PyData.eqv, PyData.eqvAll]
theorem eqb_rows {h : AH} {ps : List PRow} : pEqB h (.tup (ps.map tupP)) (.tup (ps.map tupP)) = some true :=
  eqb_self rfl (p := .tuple (ps.map rowPD)) (by simp only [pd, pdI, pdL_rows]) (shaped_rowsT ps)
theorem at_last {α β : Type} (f : α → β) (i : List α) (q : α) : atI ((i ++ [q]).map f) (-1) = some (f q) := by
  have e : ixN ((i ++ [q]).map f).length (-1) = some i.length := by
    rw [List.length_map, List.length_append, List.length_singleton]
    exact ixN_m1 _
  unfold atI
  rw [e]
  simp
theorem ix_last {α β : Type} (f : α → β) (i : List α) (q : α) : ixN ((i ++ [q]).map f).length (-1) = some i.length := by
  rw [List.length_map, List.length_append, List.length_singleton]
  exact ixN_m1 _
theorem set_last {α β : Type} (f : α → β) (i : List α) (q r : α) : ((i ++ [q]).map f).set i.length (f r) = (i ++ [r]).map f := by
  rw [List.map_append, List.set_append_right _ _ (by simp)]
  simp
end MP
set_option Elab.async false
set_option linter.all false
set_option maxRecDepth 100000
namespace K03
open PySem PySem.Spec L2 MP
open PyProof.Rows hiding St
/-- _law_bag -/
def b_law_bag : MS := sSeq (sSet 2 (eBin pAdd (eBin pMul (eC (.int 5081)) (eVar 1)) (eC (.int 3)))) (sSeq (sIf (tstB (eBin pLt (eVar 1) (eFn fLen (aCons (eVar 0) (aNil))))) (sSet 2 (eBin pIx (eVar 0) (eVar 1))) (sNil)) (sRet (eLstN (aCons (eBin pMul (eFn fAbs (aCons (eVar 2) (aNil))) (eFn fInt (aCons (eBin pGe (eFn fAbs (aCons (eVar 2) (aNil))) (eBin pPow (eC (.int 10)) (eC (.int 18)))) (aNil)))) (aCons (eBin pAdd (eBin pMod (eVar 2) (eC (.int 1000000000000000003))) (eBin pMul (eC (.int 40009)) (eVar 1))) (aCons (eC (.int 0)) (aNil)))))))
def f_law_bag : MF := fnM 2 3 b_law_bag
/-- _law_take -/
def R_law_take_1_5 : MS := sSeq (sSet 6 (eBin pMod (eBin pPow (eVar 5) (eC (.int 3))) (eBin pIx (eVar 3) (eBin pMod (eVar 4) (eC (.int 8)))))) (sRet (eBin pMod (eBin pDiv (eBin pMod (eBin pMul (eVar 6) (eBin pAdd (eBin pDiv (eVar 6) (eC (.int 8192))) (eC (.int 11)))) (eBin pIx (eVar 3) (eBin pMod (eBin pAdd (eVar 4) (eC (.int 3))) (eC (.int 8))))) (eC (.int 32))) (eVar 1)))
def R_law_take_1_4 : MS := sSeq (sSet 5 (eBin pAdd (eBin pMul (eBin pAdd (eBin pIx (eVar 0) (eC (.int 1))) (eC (.int 1))) (eBin pAdd (eBin pMul (eC (.int 2)) (eVar 4)) (eC (.int 3)))) (eBin pMul (eBin pMul (eC (.int 6007)) (eVar 4)) (eVar 4)))) (R_law_take_1_5)
def R_law_take_1_3 : MS := sSeq (sSet 4 (eBin pIx (eVar 0) (eC (.int 2)))) (R_law_take_1_4)
def R_law_take_1_2 : MS := sSeq (sAsg (eBin pAdd (eBin pIx (eVar 0) (eC (.int 2))) (eC (.int 1))) (gIx (eVar 0) (eC (.int 2)))) (R_law_take_1_3)
def R_law_take_1_1 : MS := sSeq (sSet 3 (eTup (aCons (eC (.int 2147483647)) (aCons (eC (.int 2147483629)) (aCons (eC (.int 2147483587)) (aCons (eC (.int 2147483579)) (aCons (eC (.int 2147483563)) (aCons (eC (.int 2147483549)) (aCons (eC (.int 2147483543)) (aCons (eC (.int 2147483497)) (aNil))))))))))) (R_law_take_1_2)
def b_law_take : MS := sSeq (sIf (tstB (eBin pGt (eBin pIx (eVar 0) (eC (.int 0))) (eC (.int 0)))) (sSeq (sSet 2 (eBin pMod (eBin pIx (eVar 0) (eC (.int 0))) (eVar 1))) (sSeq (sAsg (eBin pDiv (eBin pIx (eVar 0) (eC (.int 0))) (eVar 1)) (gIx (eVar 0) (eC (.int 0)))) (sRet (eVar 2)))) (sNil)) (R_law_take_1_1)
def f_law_take : MF := fnM 2 7 b_law_take
/-- _law_stretches -/
def L_law_stretches_1 : MS := sSeq (sSet 6 (eCall f_law_take 2 0 [(.us, 0), (.us, 1)] [] [] (aCons (eVar 0) (aCons (eVar 2) (aNil))) (aNil))) (sSeq (sIf (tAnd (tstB (eBin pNe (eVar 4) (eLst (aNil)))) (tstB (eBin pEq (eCall f_law_take 2 0 [(.us, 0), (.us, 1)] [] [] (aCons (eVar 0) (aCons (eC (.int 5)) (aNil))) (aNil)) (eC (.int 0))))) (sSet 6 (eFn fMin2 (aCons (eC (.int 999999)) (aCons (eBin pAdd (eBin pIx (eBin pIx (eVar 4) (eUn pNeg (eC (.int 1)))) (eC (.int 1))) (eCall f_law_take 2 0 [(.us, 0), (.us, 1)] [] [] (aCons (eVar 0) (aCons (eC (.int 3)) (aNil))) (aNil))) (aNil))))) (sNil)) (sExp (eBm "list" mAppend (eVar 4) (aCons (eTup (aCons (eVar 6) (aCons (eFn fMin2 (aCons (eC (.int 999999)) (aCons (eBin pAdd (eVar 6) (eCall f_law_take 2 0 [(.us, 0), (.us, 1)] [] [] (aCons (eVar 0) (aCons (eVar 3) (aNil))) (aNil))) (aNil)))) (aNil)))) (aNil)))))
def b_law_stretches : MS := sSeq (sSet 2 (eBin pIx (eLst (aCons (eC (.int 12)) (aCons (eC (.int 60)) (aCons (eC (.int 400)) (aCons (eC (.int 1000000)) (aNil)))))) (eCall f_law_take 2 0 [(.us, 0), (.us, 1)] [] [] (aCons (eVar 0) (aCons (eC (.int 4)) (aNil))) (aNil)))) (sSeq (sSet 3 (eBin pIx (eLst (aCons (eC (.int 1)) (aCons (eC (.int 2)) (aCons (eC (.int 9)) (aCons (eC (.int 200000)) (aNil)))))) (eCall f_law_take 2 0 [(.us, 0), (.us, 1)] [] [] (aCons (eVar 0) (aCons (eC (.int 4)) (aNil))) (aNil)))) (sSeq (sSet 4 (eLstN (aNil))) (sSeq (sFor (iRng1 (eCall f_law_take 2 0 [(.us, 0), (.us, 1)] [] [] (aCons (eVar 0) (aCons (eBin pIx (eLst (aCons (eC (.int 4)) (aCons (eBin pAdd (eVar 1) (eC (.int 1))) (aNil)))) (eCall f_law_take 2 0 [(.us, 0), (.us, 1)] [] [] (aCons (eVar 0) (aCons (eC (.int 2)) (aNil))) (aNil))) (aNil))) (aNil))) (gNm 5) (L_law_stretches_1)) (sRet (eFn fTuple (aCons (eVar 4) (aNil)))))))
def f_law_stretches : MF := fnM 2 7 b_law_stretches
/-- _law_has -/
def E_law_has_1 : ME := eChain pLe pLe (eVar 2) (eVar 1) (eVar 3)
def b_law_has : MS := sRet (eFn fAny (aCons (eComp [2, 3] (iSeq (eVar 0)) (.tup [2, 3]) (tYesD) (E_law_has_1)) (aNil)))
def f_law_has : MF := fnM 2 4 b_law_has
/-- _law_fewest -/
def E_law_fewest_1 : ME := eVar 3
def Q_law_fewest_1 : MT := tNot (tst (eCall f_law_has 2 0 [(.us, 0), (.us, 1)] [] [] (aCons (eVar 0) (aCons (eBin pSub (eVar 3) (eC (.int 1))) (aNil))) (aNil)))
def E_law_fewest_2 : ME := eVar 4
def Q_law_fewest_2 : MT := tNot (tst (eCall f_law_has 2 0 [(.us, 0), (.us, 1)] [] [] (aCons (eVar 0) (aCons (eBin pAdd (eVar 4) (eC (.int 1))) (aNil))) (aNil)))
def E_law_fewest_3 : ME := eTup (aCons (eVar 3) (aCons (eVar 4) (aNil)))
def b_law_fewest : MS := sSeq (sSet 1 (eFn fSortSet (aCons (eComp [3, 4] (iSeq (eVar 0)) (.tup [3, 4]) (Q_law_fewest_1) (E_law_fewest_1)) (aNil)))) (sSeq (sSet 2 (eFn fSortSet (aCons (eComp [3, 4] (iSeq (eVar 0)) (.tup [3, 4]) (Q_law_fewest_2) (E_law_fewest_2)) (aNil)))) (sRet (eFn fTuple (aCons (eComp [3, 4] (iZip (aCons (eVar 1) (aCons (eVar 2) (aNil)))) (.tup [3, 4]) (tYesD) (E_law_fewest_3)) (aNil)))))
def f_law_fewest : MF := fnM 1 5 b_law_fewest
/-- is_whole -/
def b_is_whole : MS := sRet (eAnd (eIsi "int" (eVar 0)) (eNot (eIsi "bool" (eVar 0))))
def f_is_whole : MF := fnM 1 1 b_is_whole
/-- is_within -/
def b_is_within : MS := sRet (eAnd (eCall f_is_whole 1 0 [(.us, 0)] [] [] (aCons (eVar 0) (aNil)) (aNil)) (eChain pLe pLe (eVar 1) (eVar 0) (eVar 2)))
def f_is_within : MF := fnM 3 3 b_is_within
/-- is_stretch -/
def E_is_stretch_1 : ME := eCall f_is_within 3 0 [(.us, 0), (.us, 1), (.us, 2)] [] [] (aCons (eVar 1) (aCons (eC (.int 0)) (aCons (eC (.int 999999)) (aNil)))) (aNil)
def b_is_stretch : MS := sSeq (sIf (tOr (tNot (tst (eIsi "tuple" (eVar 0)))) (tstB (eBin pNe (eFn fLen (aCons (eVar 0) (aNil))) (eC (.int 2))))) (sRet (eC (.bl false))) (sNil)) (sRet (eAnd (eFn fAll (aCons (eComp [1] (iSeq (eVar 0)) (.one 1) (tYesD) (E_is_stretch_1)) (aNil))) (eBin pLe (eBin pIx (eVar 0) (eC (.int 0))) (eBin pIx (eVar 0) (eC (.int 1))))))
def f_is_stretch : MF := fnM 1 2 b_is_stretch
/-- look_stretches -/
def L_look_stretches_1 : MS := sIf (tNot (tst (eCall f_is_stretch 1 0 [(.us, 0)] [] [] (aCons (eVar 2) (aNil)) (aNil)))) (sDead) (sNil)
def b_look_stretches : MS := sSeq (sIf (tOr (tNot (tst (eIsi "tuple" (eVar 0)))) (tstB (eBin pGt (eFn fLen (aCons (eVar 0) (aNil))) (eC (.int 20))))) (sDead) (sNil)) (sFor (iEnumA (aCons (eVar 0) (aNil))) (gTp 2 (gsCons (gNm 1) (gsCons (gNm 2) (gsNil)))) (L_look_stretches_1))
def f_look_stretches : MF := fnM 1 3 b_look_stretches
/-- fewest -/
def L_fewest_1 : MS := sIf (tAnd (tstB (eBin pNe (eVar 1) (eLst (aNil)))) (tstB (eBin pLe (eVar 2) (eBin pAdd (eBin pIx (eBin pIx (eVar 1) (eUn pNeg (eC (.int 1)))) (eC (.int 1))) (eC (.int 1)))))) (sAsg (eTup (aCons (eBin pIx (eBin pIx (eVar 1) (eUn pNeg (eC (.int 1)))) (eC (.int 0))) (aCons (eFn fMax2 (aCons (eBin pIx (eBin pIx (eVar 1) (eUn pNeg (eC (.int 1)))) (eC (.int 1))) (aCons (eVar 3) (aNil)))) (aNil)))) (gIx (eVar 1) (eUn pNeg (eC (.int 1))))) (sExp (eBm "list" mAppend (eVar 1) (aCons (eTup (aCons (eVar 2) (aCons (eVar 3) (aNil)))) (aNil))))
def b_fewest : MS := sSeq (sSet 1 (eLstN (aNil))) (sSeq (sFor (iSeq (eFn fSortP (aCons (eVar 0) (aNil)))) (gTp 2 (gsCons (gNm 2) (gsCons (gNm 3) (gsNil)))) (L_fewest_1)) (sRet (eFn fTuple (aCons (eVar 1) (aNil)))))
def f_fewest : MF := fnM 1 4 b_fewest
/-- Pool.__init__ -/
def b_Pool_init : MS := sSeq (sExp (eCall f_look_stretches 1 0 [(.us, 0)] [] [] (aCons (eVar 1) (aNil)) (aNil))) (sFld [1] "kept" (eVar 0) (eCall f_fewest 1 0 [(.us, 0)] [] [] (aCons (eVar 1) (aNil)) (aNil)))
def f_Pool_init : MF := fnM 2 2 b_Pool_init
/-- _law_low -/
def b_law_low : MS := sSeq (sIf (tAnd (tstB (eBin pNe (eVar 1) (eTup (aNil)))) (tstB (eBin pGt (eCall f_law_take 2 0 [(.us, 0), (.us, 1)] [] [] (aCons (eVar 0) (aCons (eC (.int 3)) (aNil))) (aNil)) (eC (.int 0))))) (sRet (eBin pSub (eBin pAdd (eBin pIx (eBin pIx (eVar 1) (eCall f_law_take 2 0 [(.us, 0), (.us, 1)] [] [] (aCons (eVar 0) (aCons (eFn fLen (aCons (eVar 1) (aNil))) (aNil))) (aNil))) (eCall f_law_take 2 0 [(.us, 0), (.us, 1)] [] [] (aCons (eVar 0) (aCons (eC (.int 2)) (aNil))) (aNil))) (eCall f_law_take 2 0 [(.us, 0), (.us, 1)] [] [] (aCons (eVar 0) (aCons (eC (.int 5)) (aNil))) (aNil))) (eC (.int 2)))) (sNil)) (sRet (eBin pMul (eBin pIx (eLst (aCons (eC (.int 1)) (aCons (eUn pNeg (eC (.int 1))) (aNil)))) (eCall f_law_take 2 0 [(.us, 0), (.us, 1)] [] [] (aCons (eVar 0) (aCons (eC (.int 2)) (aNil))) (aNil))) (eCall f_law_take 2 0 [(.us, 0), (.us, 1)] [] [] (aCons (eVar 0) (aCons (eBin pIx (eLst (aCons (eC (.int 10)) (aCons (eBin pPow (eC (.int 10)) (eC (.int 6))) (aCons (eBin pPow (eC (.int 10)) (eC (.int 12))) (aNil))))) (eCall f_law_take 2 0 [(.us, 0), (.us, 1)] [] [] (aCons (eVar 0) (aCons (eC (.int 3)) (aNil))) (aNil))) (aNil))) (aNil))))
def f_law_low : MF := fnM 2 2 b_law_low
/-- _law_first -/
def E_law_first_1 : ME := eVar 7
def Q_law_first_1 : MT := tstB (eBin pNotIn (eVar 7) (eVar 2))
def L_law_first_3 : MS := sSeq (sSet 5 (eFn fMax2 (aCons (eVar 3) (aCons (eVar 1) (aNil))))) (sSeq (sSet 6 (eComp [7] (iRng2 (eVar 5) (eBin pAdd (eFn fMin2 (aCons (eVar 4) (aCons (eBin pAdd (eVar 5) (eFn fLen (aCons (eVar 2) (aNil)))) (aNil)))) (eC (.int 1)))) (.one 7) (Q_law_first_1) (E_law_first_1))) (sIf (tstB (eBin pNe (eVar 6) (eLst (aNil)))) (sRet (eBin pIx (eVar 6) (eC (.int 0)))) (sNil)))
def b_law_first : MS := sSeq (sFor (iSeq (eVar 0)) (gTp 2 (gsCons (gNm 3) (gsCons (gNm 4) (gsNil)))) (L_law_first_3)) (sRet (eC .non))
def f_law_first : MF := fnM 3 8 b_law_first
/-- _law_but -/
def L_law_but_1 : MS := sSeq (sSet 6 (eCall f_law_first 3 0 [(.us, 0), (.us, 1), (.us, 2)] [] [] (aCons (eVar 1) (aCons (eVar 4) (aCons (eTup (aNil)) (aNil)))) (aNil))) (sSeq (sIf (tOr (tstB (eBin pIs (eVar 6) (eC .non))) (tstB (eBin pEq (eCall f_law_take 2 0 [(.us, 0), (.us, 1)] [] [] (aCons (eVar 0) (aCons (eC (.int 9)) (aNil))) (aNil)) (eC (.int 0))))) (sSet 6 (eCall f_law_take 2 0 [(.us, 0), (.us, 1)] [] [] (aCons (eVar 0) (aCons (eBin pPow (eC (.int 10)) (eC (.int 6))) (aNil))) (aNil))) (sNil)) (sSeq (sExp (eBm "list" mAppend (eVar 3) (aCons (eVar 6) (aNil)))) (sSet 4 (eIf (tstB (eBin pGt (eCall f_law_take 2 0 [(.us, 0), (.us, 1)] [] [] (aCons (eVar 0) (aCons (eC (.int 12)) (aNil))) (aNil)) (eC (.int 0)))) (eBin pAdd (eVar 6) (eC (.int 1))) (eVar 2)))))
def b_law_but : MS := sSeq (sSet 3 (eLstN (aNil))) (sSeq (sSet 4 (eVar 2)) (sSeq (sFor (iRng1 (eCall f_law_take 2 0 [(.us, 0), (.us, 1)] [] [] (aCons (eVar 0) (aCons (eBin pIx (eLst (aCons (eC (.int 2)) (aCons (eC (.int 12)) (aCons (eC (.int 101)) (aNil))))) (eCall f_law_take 2 0 [(.us, 0), (.us, 1)] [] [] (aCons (eVar 0) (aCons (eC (.int 3)) (aNil))) (aNil))) (aNil))) (aNil))) (gNm 5) (L_law_but_1)) (sSeq (sSet 5 (eCall f_law_take 2 0 [(.us, 0), (.us, 1)] [] [] (aCons (eVar 0) (aCons (eBin pAdd (eFn fLen (aCons (eVar 3) (aNil))) (eC (.int 1))) (aNil))) (aNil))) (sRet (eFn fTuple (aCons (eBin pAdd (eSl (eVar 3) (some (eVar 5)) none) (eSl (eVar 3) none (some (eVar 5)))) (aNil)))))))
def f_law_but : MF := fnM 3 7 b_law_but
/-- Pool.first_from -/
def L_Pool_first_from_1 : MS := sAug 5 pAddI (eC (.int 1))
def T_Pool_first_from_2 : MT := tAnd (tstB (eBin pLe (eVar 5) (eVar 4))) (tstB (eBin pIn (eVar 5) (eVar 2)))
def L_Pool_first_from_3 : MS := sSeq (sSet 5 (eFn fMax2 (aCons (eVar 1) (aCons (eVar 3) (aNil))))) (sSeq (sWhile 100000 (T_Pool_first_from_2) (L_Pool_first_from_1)) (sIf (tstB (eBin pLe (eVar 5) (eVar 4))) (sRet (eVar 5)) (sNil)))
def b_Pool_first_from : MS := sSeq (sFor (iSeq (eFld [1] "kept" (eVar 0))) (gTp 2 (gsCons (gNm 3) (gsCons (gNm 4) (gsNil)))) (L_Pool_first_from_3)) (sRet (eC .non))
def f_Pool_first_from : MF := fnM 3 6 b_Pool_first_from
/-- Pool.stretches -/
def b_Pool_stretches : MS := sRet (eFld [1] "kept" (eVar 0))
def f_Pool_stretches : MF := fnM 1 1 b_Pool_stretches
/-- law -/
def R_law_1_6 : MS := sSeq (sIf (tOr (tstB (eBin pNe (eFn fRepr (aCons (eMeth 1 "first_from" f_Pool_first_from 0 0 [(.us, 0), (.its, 0), (.mv, 0)] [.int 0] [.tup []] (eVar 5) (aNil) (aNil)) (aNil))) (eFn fRepr (aCons (eCall f_law_first 3 0 [(.us, 0), (.us, 1), (.us, 2)] [] [] (aCons (eVar 4) (aCons (eC (.int 0)) (aCons (eTup (aNil)) (aNil)))) (aNil)) (aNil))))) (tstB (eBin pNe (eMeth 1 "stretches" f_Pool_stretches 0 0 [(.us, 0)] [] [] (eVar 5) (aNil) (aNil)) (eVar 4)))) (sRet (eC (.bl false))) (sNil)) (sIf (tstB (eBin pIsNot (eMeth 1 "first_from" f_Pool_first_from 1 1 [(.us, 0), (.us, 1), (.ws, 0)] [.int 0] [] (eMake 1 f_Pool_init 0 0 [(.us, 0), (.its, 0)] [.tup []] [] (aNil) (aNil)) (aCons (eVar 7) (aNil)) (aCons (eVar 8) (aNil))) (eC .non))) (sRet (eC (.bl false))) (sNil))
def R_law_1_5 : MS := sSeq (sIf (tstB (eBin pNe (eFn fRepr (aCons (eMeth 1 "first_from" f_Pool_first_from 1 0 [(.us, 0), (.us, 1), (.mv, 0)] [.int 0] [.tup []] (eVar 5) (aCons (eVar 7) (aNil)) (aNil)) (aNil))) (eFn fRepr (aCons (eCall f_law_first 3 0 [(.us, 0), (.us, 1), (.us, 2)] [] [] (aCons (eVar 4) (aCons (eVar 7) (aCons (eTup (aNil)) (aNil)))) (aNil)) (aNil))))) (sRet (eC (.bl false))) (sNil)) (R_law_1_6)
def R_law_1_4 : MS := sSeq (sIf (tOr (tstB (eBin pNe (eFn fRepr (aCons (eVar 10) (aNil))) (eFn fRepr (aCons (eLst (aCons (eVar 9) (aCons (eVar 9) (aNil)))) (aNil))))) (tstB (eBin pNe (eFn fRepr (aCons (eMeth 1 "first_from" f_Pool_first_from 0 1 [(.us, 0), (.its, 0), (.ws, 0)] [.int 0] [] (eVar 5) (aNil) (aCons (eVar 8) (aNil))) (aNil))) (eFn fRepr (aCons (eCall f_law_first 3 0 [(.us, 0), (.us, 1), (.us, 2)] [] [] (aCons (eVar 4) (aCons (eC (.int 0)) (aCons (eVar 8) (aNil)))) (aNil)) (aNil)))))) (sRet (eC (.bl false))) (sNil)) (R_law_1_5)
def R_law_1_3 : MS := sSeq (sSet 10 (eLst (aCons (eMeth 1 "first_from" f_Pool_first_from 1 1 [(.us, 0), (.us, 1), (.ws, 0)] [.int 0] [] (eVar 5) (aCons (eVar 7) (aNil)) (aCons (eVar 8) (aNil))) (aCons (eMeth 1 "first_from" f_Pool_first_from 0 2 [(.us, 0), (.ws, 1), (.ws, 0)] [.int 0] [] (eVar 5) (aNil) (aCons (eVar 8) (aCons (eVar 7) (aNil)))) (aNil))))) (R_law_1_4)
def R_law_1_2 : MS := sSeq (sSet 9 (eCall f_law_first 3 0 [(.us, 0), (.us, 1), (.us, 2)] [] [] (aCons (eVar 4) (aCons (eVar 7) (aCons (eVar 8) (aNil)))) (aNil))) (R_law_1_3)
def R_law_1_1 : MS := sSeq (sSet 8 (eCall f_law_but 3 0 [(.us, 0), (.us, 1), (.us, 2)] [] [] (aCons (eVar 2) (aCons (eVar 4) (aCons (eVar 7) (aNil)))) (aNil))) (R_law_1_2)
def L_law_7 : MS := sSeq (sSet 7 (eCall f_law_low 2 0 [(.us, 0), (.us, 1)] [] [] (aCons (eVar 2) (aCons (eVar 4) (aNil))) (aNil))) (R_law_1_1)
def L_law_8 : MS := sSeq (sSet 2 (eCall f_law_bag 2 0 [(.us, 0), (.us, 1)] [] [] (aCons (eVar 0) (aCons (eVar 1) (aNil))) (aNil))) (sSeq (sSet 3 (eCall f_law_stretches 2 0 [(.us, 0), (.us, 1)] [] [] (aCons (eVar 2) (aCons (eC (.int 20)) (aNil))) (aNil))) (sSeq (sSet 4 (eCall f_law_fewest 1 0 [(.us, 0)] [] [] (aCons (eVar 3) (aNil)) (aNil))) (sSeq (sSet 5 (eMake 1 f_Pool_init 1 0 [(.us, 0), (.us, 1)] [.tup []] [] (aCons (eVar 3) (aNil)) (aNil))) (sFor (iRng1 (eC (.int 5))) (gNm 6) (L_law_7)))))
def b_law : MS := sSeq (sFor (iRng1 (eFn fMax2 (aCons (eC (.int 1)) (aCons (eFn fMin2 (aCons (eC (.int 4)) (aCons (eFn fLen (aCons (eVar 0) (aNil))) (aNil)))) (aNil))))) (gNm 1) (L_law_8)) (sRet (eC (.bl true)))
def f_law : MF := fnM 1 11 b_law
theorem Pool_get_kept (x0 : D) : List.lookup ("kept" : Str) ([("kept", x0)] : List (Str × D)) = some x0 := rfl
theorem Pool_set_kept (v x0 : D) : putFD "kept" v ([("kept", x0)] : List (Str × D)) = ([("kept", v)] : List (Str × D)) := rfl
theorem Pool_put_0 (x0 : D) : putFD "kept" x0 ([] : List (Str × D)) = ([("kept", x0)] : List (Str × D)) := rfl
theorem Pool_no_stretches (x0 : D) : List.lookup ("stretches" : Str) ([("kept", x0)] : List (Str × D)) = none := rfl
theorem Pool_no___len__ (x0 : D) : List.lookup ("__len__" : Str) ([("kept", x0)] : List (Str × D)) = none := rfl
theorem Pool_no_has (x0 : D) : List.lookup ("has" : Str) ([("kept", x0)] : List (Str × D)) = none := rfl
theorem Pool_no_number_at (x0 : D) : List.lookup ("number_at" : Str) ([("kept", x0)] : List (Str × D)) = none := rfl
theorem Pool_no_place_of (x0 : D) : List.lookup ("place_of" : Str) ([("kept", x0)] : List (Str × D)) = none := rfl
theorem Pool_no_first_from (x0 : D) : List.lookup ("first_from" : Str) ([("kept", x0)] : List (Str × D)) = none := rfl
theorem Pool_no_joined (x0 : D) : List.lookup ("joined" : Str) ([("kept", x0)] : List (Str × D)) = none := rfl
theorem Pool_no_met (x0 : D) : List.lookup ("met" : Str) ([("kept", x0)] : List (Str × D)) = none := rfl
theorem Pool_no_without (x0 : D) : List.lookup ("without" : Str) ([("kept", x0)] : List (Str × D)) = none := rfl
theorem Pool_no_dealt (x0 : D) : List.lookup ("dealt" : Str) ([("kept", x0)] : List (Str × D)) = none := rfl
theorem Pool_no___eq__ (x0 : D) : List.lookup ("__eq__" : Str) ([("kept", x0)] : List (Str × D)) = none := rfl
theorem Pool_no___str__ (x0 : D) : List.lookup ("__str__" : Str) ([("kept", x0)] : List (Str × D)) = none := rfl
theorem Pool_no___repr__ (x0 : D) : List.lookup ("__repr__" : Str) ([("kept", x0)] : List (Str × D)) = none := rfl
end K03
set_option Elab.async false
set_option linter.all false
set_option maxRecDepth 100000
set_option maxHeartbeats 4000000
namespace K03
open PySem PySem.Spec L2 MP
theorem e_take : f_law_take = f_take := rfl
theorem e_bag : f_law_bag = f_bagB := rfl
/-- stretches as they are told -/
def rowsD (ps : List PRow) : D := .tup (ps.map tupP)
theorem has_ok (ps : List PRow) (x : Int) (h : AH) (hl : ps.length ≤ 100000) : f_law_has [.tup (ps.map tupP), .int x] h = .ok (.bl (hasB ps x)) h := by
  have C := compL_map (ok := fun _ => true) (own := [2, 3]) (g := .tup [2, 3]) (t := tYesD) (e := E_law_has_1) (s := [some (.tup (ps.map tupP)), some (.int x), none, none]) (h := h) tupP (fun _ => true) (fun p => .bl (decide (p.1 ≤ x ∧ x ≤ p.2))) rfl ps [] (fun p _ => ⟨[some (.tup (ps.map tupP)), some (.int x), some (.int p.1), some (.int p.2)], rfl, rfl, fun _ => by
    by_cases h1 : p.1 ≤ x
    · simp (disch := omega) only [fnM, eVar, eC, eBin, eUn, aNil, aCons, eTup, eLst, eLstN, eFn, eIf, eFld, eCall, eMeth, eMake, insOf, tst, tstB, MP.tAnd, MP.tOr, MP.tNot, eAnd, eOr, eNot, eChain, truth, optR, Res.bind, Res.bindS, sNil, sSeq, sExp, sRet, sRetN, sIf, sAsg, sSet, sPar, MP.sFld, MP.sFldAug, sFor, nxO, gNm, gFld, gIx, setIx, setFld, gsNil, gsCons, gTp, gLs, MP.iRng1, MP.iRng2, iSeq, iLst, MP.iTup, seqL, seqM, seqT, seqX, eIsi, tyName, isi_ii, isi_ib, isi_bi, isi_bb, isi_ni, isi_si, isi_ss, isi_is, isi_tt, isi_ti, isi_li, pAdd, pSub, pMul_ok, pDiv_ok, pMod_ok, pNeg, pLt, pLe, pGt, pGe, pEq, pNe, pEqB, sEq, pIs, pIsNot, MP.isNon, pIx, fAbs, fMax2, fMin2, fInt, fLen, gSel, pick, AH.put_g, AH.put_n, AH.new_g, AH.new_n, AH.put_same, AH.new_same, AH.put_put, AH.new_put, List.length_cons, List.length_nil, List.map_cons, List.map_nil, List.cons_append, List.nil_append, List.append_nil, List.replicate, List.getElem?_cons_zero, List.getElem?_cons_succ, List.getElem?_nil, List.set_cons_zero, List.set_cons_succ, List.flatMap_cons, List.flatMap_nil, List.drop_zero, List.drop_succ_cons, List.drop_nil, List.take_succ_cons, List.take_zero, List.take_nil, List.contains_cons, List.contains_nil, Bool.or_false, Bool.or_true, Bool.true_or, Bool.false_or, Bool.and_true, Bool.and_false, Bool.not_true, Bool.not_false, beq_self_eq_true, Nat.reduceAdd, Nat.reduceSub, Nat.reduceLeDiff, Nat.reduceLT, Nat.reduceEqDiff, Nat.reduceBEq, Int.reduceToNat, ↓reduceIte, reduceIte, Bool.false_eq_true, ne_true_f, pow10_18, pow10_10, pow10_11, pow10_6, decide_eq_true_eq, and_self, and_true, true_and, Nat.zero_le, Option.map_some, Option.map_none, Option.bind_some, Int.reduceLT, Int.reduceLE, Int.reduceNeg, decide_true, decide_false, ixN_0, ixN_1, ixN_2, ixN_3, ixN_m1, atI_1, atI_2, atI_3, eq_self, Option.some.injEq, false_and, atI_0, Nat.zero_add, Nat.add_zero, sRaise, sRaise0, sTryO, noEx, fAny, fAll, blsL, compL, wipeD, CT.set, eComp, eCompN, lstOk, fSum, fTuple, fList, sAug, pAddI, pSubI, pIn, pNotIn, inB, MP.iZip, iEnumA, fSortP, fSortSet, eSl, partD, zipD_ints, pairsL_map, eBm, mAppend, List.any_cons, List.any_nil, List.all_cons, List.all_nil, id, List.length_append, List.zip_cons_cons, List.zip_nil_left, List.reverse_cons, List.reverse_nil, eqb_int, eqb_str, eqb_bl, kc0, kc1, kc2, kc3, kc4, kc5, kc6, kc7, kc8, kc9, kc10, kc11, kc12, kc13, kc14, kc15, kc16, kc17, kc18, kc19, kc20, Int.reduceBEq, Int.reduceMul, Int.reduceSub, Pool_get_kept, Pool_set_kept, Pool_put_0, Pool_no_stretches, Pool_no___len__, Pool_no_has, Pool_no_number_at, Pool_no_place_of, Pool_no_first_from, Pool_no_joined, Pool_no_met, Pool_no_without, Pool_no_dealt, Pool_no___eq__, Pool_no___str__, Pool_no___repr__, E_law_has_1, h1]
    · simp (disch := omega) only [fnM, eVar, eC, eBin, eUn, aNil, aCons, eTup, eLst, eLstN, eFn, eIf, eFld, eCall, eMeth, eMake, insOf, tst, tstB, MP.tAnd, MP.tOr, MP.tNot, eAnd, eOr, eNot, eChain, truth, optR, Res.bind, Res.bindS, sNil, sSeq, sExp, sRet, sRetN, sIf, sAsg, sSet, sPar, MP.sFld, MP.sFldAug, sFor, nxO, gNm, gFld, gIx, setIx, setFld, gsNil, gsCons, gTp, gLs, MP.iRng1, MP.iRng2, iSeq, iLst, MP.iTup, seqL, seqM, seqT, seqX, eIsi, tyName, isi_ii, isi_ib, isi_bi, isi_bb, isi_ni, isi_si, isi_ss, isi_is, isi_tt, isi_ti, isi_li, pAdd, pSub, pMul_ok, pDiv_ok, pMod_ok, pNeg, pLt, pLe, pGt, pGe, pEq, pNe, pEqB, sEq, pIs, pIsNot, MP.isNon, pIx, fAbs, fMax2, fMin2, fInt, fLen, gSel, pick, AH.put_g, AH.put_n, AH.new_g, AH.new_n, AH.put_same, AH.new_same, AH.put_put, AH.new_put, List.length_cons, List.length_nil, List.map_cons, List.map_nil, List.cons_append, List.nil_append, List.append_nil, List.replicate, List.getElem?_cons_zero, List.getElem?_cons_succ, List.getElem?_nil, List.set_cons_zero, List.set_cons_succ, List.flatMap_cons, List.flatMap_nil, List.drop_zero, List.drop_succ_cons, List.drop_nil, List.take_succ_cons, List.take_zero, List.take_nil, List.contains_cons, List.contains_nil, Bool.or_false, Bool.or_true, Bool.true_or, Bool.false_or, Bool.and_true, Bool.and_false, Bool.not_true, Bool.not_false, beq_self_eq_true, Nat.reduceAdd, Nat.reduceSub, Nat.reduceLeDiff, Nat.reduceLT, Nat.reduceEqDiff, Nat.reduceBEq, Int.reduceToNat, ↓reduceIte, reduceIte, Bool.false_eq_true, ne_true_f, pow10_18, pow10_10, pow10_11, pow10_6, decide_eq_true_eq, and_self, and_true, true_and, Nat.zero_le, Option.map_some, Option.map_none, Option.bind_some, Int.reduceLT, Int.reduceLE, Int.reduceNeg, decide_true, decide_false, ixN_0, ixN_1, ixN_2, ixN_3, ixN_m1, atI_1, atI_2, atI_3, eq_self, Option.some.injEq, false_and, atI_0, Nat.zero_add, Nat.add_zero, sRaise, sRaise0, sTryO, noEx, fAny, fAll, blsL, compL, wipeD, CT.set, eComp, eCompN, lstOk, fSum, fTuple, fList, sAug, pAddI, pSubI, pIn, pNotIn, inB, MP.iZip, iEnumA, fSortP, fSortSet, eSl, partD, zipD_ints, pairsL_map, eBm, mAppend, List.any_cons, List.any_nil, List.all_cons, List.all_nil, id, List.length_append, List.zip_cons_cons, List.zip_nil_left, List.reverse_cons, List.reverse_nil, eqb_int, eqb_str, eqb_bl, kc0, kc1, kc2, kc3, kc4, kc5, kc6, kc7, kc8, kc9, kc10, kc11, kc12, kc13, kc14, kc15, kc16, kc17, kc18, kc19, kc20, Int.reduceBEq, Int.reduceMul, Int.reduceSub, Pool_get_kept, Pool_set_kept, Pool_put_0, Pool_no_stretches, Pool_no___len__, Pool_no_has, Pool_no_number_at, Pool_no_place_of, Pool_no_first_from, Pool_no_joined, Pool_no_met, Pool_no_without, Pool_no_dealt, Pool_no___eq__, Pool_no___str__, Pool_no___repr__, E_law_has_1, h1]⟩) (by simpa using hl)
  rw [filter_true] at C
  simp (disch := omega) only [fnM, eVar, eC, eBin, eUn, aNil, aCons, eTup, eLst, eLstN, eFn, eIf, eFld, eCall, eMeth, eMake, insOf, tst, tstB, MP.tAnd, MP.tOr, MP.tNot, eAnd, eOr, eNot, eChain, truth, optR, Res.bind, Res.bindS, sNil, sSeq, sExp, sRet, sRetN, sIf, sAsg, sSet, sPar, MP.sFld, MP.sFldAug, sFor, nxO, gNm, gFld, gIx, setIx, setFld, gsNil, gsCons, gTp, gLs, MP.iRng1, MP.iRng2, iSeq, iLst, MP.iTup, seqL, seqM, seqT, seqX, eIsi, tyName, isi_ii, isi_ib, isi_bi, isi_bb, isi_ni, isi_si, isi_ss, isi_is, isi_tt, isi_ti, isi_li, pAdd, pSub, pMul_ok, pDiv_ok, pMod_ok, pNeg, pLt, pLe, pGt, pGe, pEq, pNe, pEqB, sEq, pIs, pIsNot, MP.isNon, pIx, fAbs, fMax2, fMin2, fInt, fLen, gSel, pick, AH.put_g, AH.put_n, AH.new_g, AH.new_n, AH.put_same, AH.new_same, AH.put_put, AH.new_put, List.length_cons, List.length_nil, List.map_cons, List.map_nil, List.cons_append, List.nil_append, List.append_nil, List.replicate, List.getElem?_cons_zero, List.getElem?_cons_succ, List.getElem?_nil, List.set_cons_zero, List.set_cons_succ, List.flatMap_cons, List.flatMap_nil, List.drop_zero, List.drop_succ_cons, List.drop_nil, List.take_succ_cons, List.take_zero, List.take_nil, List.contains_cons, List.contains_nil, Bool.or_false, Bool.or_true, Bool.true_or, Bool.false_or, Bool.and_true, Bool.and_false, Bool.not_true, Bool.not_false, beq_self_eq_true, Nat.reduceAdd, Nat.reduceSub, Nat.reduceLeDiff, Nat.reduceLT, Nat.reduceEqDiff, Nat.reduceBEq, Int.reduceToNat, ↓reduceIte, reduceIte, Bool.false_eq_true, ne_true_f, pow10_18, pow10_10, pow10_11, pow10_6, decide_eq_true_eq, and_self, and_true, true_and, Nat.zero_le, Option.map_some, Option.map_none, Option.bind_some, Int.reduceLT, Int.reduceLE, Int.reduceNeg, decide_true, decide_false, ixN_0, ixN_1, ixN_2, ixN_3, ixN_m1, atI_1, atI_2, atI_3, eq_self, Option.some.injEq, false_and, atI_0, Nat.zero_add, Nat.add_zero, sRaise, sRaise0, sTryO, noEx, fAny, fAll, blsL, compL, wipeD, CT.set, eComp, eCompN, lstOk, fSum, fTuple, fList, sAug, pAddI, pSubI, pIn, pNotIn, inB, MP.iZip, iEnumA, fSortP, fSortSet, eSl, partD, zipD_ints, pairsL_map, eBm, mAppend, List.any_cons, List.any_nil, List.all_cons, List.all_nil, id, List.length_append, List.zip_cons_cons, List.zip_nil_left, List.reverse_cons, List.reverse_nil, eqb_int, eqb_str, eqb_bl, kc0, kc1, kc2, kc3, kc4, kc5, kc6, kc7, kc8, kc9, kc10, kc11, kc12, kc13, kc14, kc15, kc16, kc17, kc18, kc19, kc20, Int.reduceBEq, Int.reduceMul, Int.reduceSub, Pool_get_kept, Pool_set_kept, Pool_put_0, Pool_no_stretches, Pool_no___len__, Pool_no_has, Pool_no_number_at, Pool_no_place_of, Pool_no_first_from, Pool_no_joined, Pool_no_met, Pool_no_without, Pool_no_dealt, Pool_no___eq__, Pool_no___str__, Pool_no___repr__, f_law_has, b_law_has, C, blsL_map, List.any_map, List.length_map]
  rfl

theorem lows_len (ps : List PRow) : (lows ps).length ≤ ps.length := by
  unfold lows
  rw [List.length_map]
  exact List.length_filter_le ..
theorem highs_len (ps : List PRow) : (highs ps).length ≤ ps.length := by
  unfold highs
  rw [List.length_map]
  exact List.length_filter_le ..
theorem sortU_len : ∀ l : List Int, (sortU l).length ≤ l.length
  | [] => Nat.le_refl _
  | p :: r => by
    have h : ∀ l, (insU p l).length ≤ l.length + 1 := by
      intro l
      induction l with
      | nil => simp [insU]
      | cons q r ih =>
        unfold insU
        split
        · simp only [List.length_cons]
          omega
        · split <;> simp
    have := h (sortU r)
    have := sortU_len r
    simp only [sortU, List.length_cons]
    omega
theorem fw_len (ps : List PRow) : (fw ps).length ≤ ps.length := by
  unfold fw
  rw [List.length_zip]
  have := sortU_len (lows ps)
  have := lows_len ps
  omega
theorem i_lows (ps : List PRow) : intsL ((ps.filter fun p => !hasB ps (p.1 - 1)).map fun p => D.int p.1) = some (lows ps) := intsL_mapf (fun p : PRow => p.1) _
theorem i_highs (ps : List PRow) : intsL ((ps.filter fun p => !hasB ps (p.2 + 1)).map fun p => D.int p.2) = some (highs ps) := intsL_mapf (fun p : PRow => p.2) _
theorem lawfewest_ok (ps : List PRow) (hl : ps.length < 64) (h : AH) : f_law_fewest [.tup (ps.map tupP)] h = .ok (.tup ((fw ps).map tupP)) h := by
  have hh := has_ok ps
  have C1 := compL_map (ok := fun _ => true) (own := [3, 4]) (g := .tup [3, 4]) (t := Q_law_fewest_1) (e := E_law_fewest_1) (s := [some (.tup (ps.map tupP)), none, none, none, none]) (h := h) tupP (fun p => !hasB ps (p.1 - 1)) (fun p => .int p.1) rfl ps [] (fun p _ => ⟨[some (.tup (ps.map tupP)), none, none, some (.int p.1), some (.int p.2)], rfl, by
    simp (disch := omega) only [fnM, eVar, eC, eBin, eUn, aNil, aCons, eTup, eLst, eLstN, eFn, eIf, eFld, eCall, eMeth, eMake, insOf, tst, tstB, MP.tAnd, MP.tOr, MP.tNot, eAnd, eOr, eNot, eChain, truth, optR, Res.bind, Res.bindS, sNil, sSeq, sExp, sRet, sRetN, sIf, sAsg, sSet, sPar, MP.sFld, MP.sFldAug, sFor, nxO, gNm, gFld, gIx, setIx, setFld, gsNil, gsCons, gTp, gLs, MP.iRng1, MP.iRng2, iSeq, iLst, MP.iTup, seqL, seqM, seqT, seqX, eIsi, tyName, isi_ii, isi_ib, isi_bi, isi_bb, isi_ni, isi_si, isi_ss, isi_is, isi_tt, isi_ti, isi_li, pAdd, pSub, pMul_ok, pDiv_ok, pMod_ok, pNeg, pLt, pLe, pGt, pGe, pEq, pNe, pEqB, sEq, pIs, pIsNot, MP.isNon, pIx, fAbs, fMax2, fMin2, fInt, fLen, gSel, pick, AH.put_g, AH.put_n, AH.new_g, AH.new_n, AH.put_same, AH.new_same, AH.put_put, AH.new_put, List.length_cons, List.length_nil, List.map_cons, List.map_nil, List.cons_append, List.nil_append, List.append_nil, List.replicate, List.getElem?_cons_zero, List.getElem?_cons_succ, List.getElem?_nil, List.set_cons_zero, List.set_cons_succ, List.flatMap_cons, List.flatMap_nil, List.drop_zero, List.drop_succ_cons, List.drop_nil, List.take_succ_cons, List.take_zero, List.take_nil, List.contains_cons, List.contains_nil, Bool.or_false, Bool.or_true, Bool.true_or, Bool.false_or, Bool.and_true, Bool.and_false, Bool.not_true, Bool.not_false, beq_self_eq_true, Nat.reduceAdd, Nat.reduceSub, Nat.reduceLeDiff, Nat.reduceLT, Nat.reduceEqDiff, Nat.reduceBEq, Int.reduceToNat, ↓reduceIte, reduceIte, Bool.false_eq_true, ne_true_f, pow10_18, pow10_10, pow10_11, pow10_6, decide_eq_true_eq, and_self, and_true, true_and, Nat.zero_le, Option.map_some, Option.map_none, Option.bind_some, Int.reduceLT, Int.reduceLE, Int.reduceNeg, decide_true, decide_false, ixN_0, ixN_1, ixN_2, ixN_3, ixN_m1, atI_1, atI_2, atI_3, eq_self, Option.some.injEq, false_and, atI_0, Nat.zero_add, Nat.add_zero, sRaise, sRaise0, sTryO, noEx, fAny, fAll, blsL, compL, wipeD, CT.set, eComp, eCompN, lstOk, fSum, fTuple, fList, sAug, pAddI, pSubI, pIn, pNotIn, inB, MP.iZip, iEnumA, fSortP, fSortSet, eSl, partD, zipD_ints, pairsL_map, eBm, mAppend, List.any_cons, List.any_nil, List.all_cons, List.all_nil, id, List.length_append, List.zip_cons_cons, List.zip_nil_left, List.reverse_cons, List.reverse_nil, eqb_int, eqb_str, eqb_bl, kc0, kc1, kc2, kc3, kc4, kc5, kc6, kc7, kc8, kc9, kc10, kc11, kc12, kc13, kc14, kc15, kc16, kc17, kc18, kc19, kc20, Int.reduceBEq, Int.reduceMul, Int.reduceSub, Pool_get_kept, Pool_set_kept, Pool_put_0, Pool_no_stretches, Pool_no___len__, Pool_no_has, Pool_no_number_at, Pool_no_place_of, Pool_no_first_from, Pool_no_joined, Pool_no_met, Pool_no_without, Pool_no_dealt, Pool_no___eq__, Pool_no___str__, Pool_no___repr__, Q_law_fewest_1, hh _ _ (by omega)], fun _ => by simp (disch := omega) only [fnM, eVar, eC, eBin, eUn, aNil, aCons, eTup, eLst, eLstN, eFn, eIf, eFld, eCall, eMeth, eMake, insOf, tst, tstB, MP.tAnd, MP.tOr, MP.tNot, eAnd, eOr, eNot, eChain, truth, optR, Res.bind, Res.bindS, sNil, sSeq, sExp, sRet, sRetN, sIf, sAsg, sSet, sPar, MP.sFld, MP.sFldAug, sFor, nxO, gNm, gFld, gIx, setIx, setFld, gsNil, gsCons, gTp, gLs, MP.iRng1, MP.iRng2, iSeq, iLst, MP.iTup, seqL, seqM, seqT, seqX, eIsi, tyName, isi_ii, isi_ib, isi_bi, isi_bb, isi_ni, isi_si, isi_ss, isi_is, isi_tt, isi_ti, isi_li, pAdd, pSub, pMul_ok, pDiv_ok, pMod_ok, pNeg, pLt, pLe, pGt, pGe, pEq, pNe, pEqB, sEq, pIs, pIsNot, MP.isNon, pIx, fAbs, fMax2, fMin2, fInt, fLen, gSel, pick, AH.put_g, AH.put_n, AH.new_g, AH.new_n, AH.put_same, AH.new_same, AH.put_put, AH.new_put, List.length_cons, List.length_nil, List.map_cons, List.map_nil, List.cons_append, List.nil_append, List.append_nil, List.replicate, List.getElem?_cons_zero, List.getElem?_cons_succ, List.getElem?_nil, List.set_cons_zero, List.set_cons_succ, List.flatMap_cons, List.flatMap_nil, List.drop_zero, List.drop_succ_cons, List.drop_nil, List.take_succ_cons, List.take_zero, List.take_nil, List.contains_cons, List.contains_nil, Bool.or_false, Bool.or_true, Bool.true_or, Bool.false_or, Bool.and_true, Bool.and_false, Bool.not_true, Bool.not_false, beq_self_eq_true, Nat.reduceAdd, Nat.reduceSub, Nat.reduceLeDiff, Nat.reduceLT, Nat.reduceEqDiff, Nat.reduceBEq, Int.reduceToNat, ↓reduceIte, reduceIte, Bool.false_eq_true, ne_true_f, pow10_18, pow10_10, pow10_11, pow10_6, decide_eq_true_eq, and_self, and_true, true_and, Nat.zero_le, Option.map_some, Option.map_none, Option.bind_some, Int.reduceLT, Int.reduceLE, Int.reduceNeg, decide_true, decide_false, ixN_0, ixN_1, ixN_2, ixN_3, ixN_m1, atI_1, atI_2, atI_3, eq_self, Option.some.injEq, false_and, atI_0, Nat.zero_add, Nat.add_zero, sRaise, sRaise0, sTryO, noEx, fAny, fAll, blsL, compL, wipeD, CT.set, eComp, eCompN, lstOk, fSum, fTuple, fList, sAug, pAddI, pSubI, pIn, pNotIn, inB, MP.iZip, iEnumA, fSortP, fSortSet, eSl, partD, zipD_ints, pairsL_map, eBm, mAppend, List.any_cons, List.any_nil, List.all_cons, List.all_nil, id, List.length_append, List.zip_cons_cons, List.zip_nil_left, List.reverse_cons, List.reverse_nil, eqb_int, eqb_str, eqb_bl, kc0, kc1, kc2, kc3, kc4, kc5, kc6, kc7, kc8, kc9, kc10, kc11, kc12, kc13, kc14, kc15, kc16, kc17, kc18, kc19, kc20, Int.reduceBEq, Int.reduceMul, Int.reduceSub, Pool_get_kept, Pool_set_kept, Pool_put_0, Pool_no_stretches, Pool_no___len__, Pool_no_has, Pool_no_number_at, Pool_no_place_of, Pool_no_first_from, Pool_no_joined, Pool_no_met, Pool_no_without, Pool_no_dealt, Pool_no___eq__, Pool_no___str__, Pool_no___repr__, E_law_fewest_1]⟩) (by simp; omega)
  have C2 := fun l => compL_map (ok := fun _ => true) (own := [3, 4]) (g := .tup [3, 4]) (t := Q_law_fewest_2) (e := E_law_fewest_2) (s := [some (.tup (ps.map tupP)), some (.lst l), none, none, none]) (h := h) tupP (fun p => !hasB ps (p.2 + 1)) (fun p => .int p.2) rfl ps [] (fun p _ => ⟨[some (.tup (ps.map tupP)), some (.lst l), none, some (.int p.1), some (.int p.2)], rfl, by
    simp (disch := omega) only [fnM, eVar, eC, eBin, eUn, aNil, aCons, eTup, eLst, eLstN, eFn, eIf, eFld, eCall, eMeth, eMake, insOf, tst, tstB, MP.tAnd, MP.tOr, MP.tNot, eAnd, eOr, eNot, eChain, truth, optR, Res.bind, Res.bindS, sNil, sSeq, sExp, sRet, sRetN, sIf, sAsg, sSet, sPar, MP.sFld, MP.sFldAug, sFor, nxO, gNm, gFld, gIx, setIx, setFld, gsNil, gsCons, gTp, gLs, MP.iRng1, MP.iRng2, iSeq, iLst, MP.iTup, seqL, seqM, seqT, seqX, eIsi, tyName, isi_ii, isi_ib, isi_bi, isi_bb, isi_ni, isi_si, isi_ss, isi_is, isi_tt, isi_ti, isi_li, pAdd, pSub, pMul_ok, pDiv_ok, pMod_ok, pNeg, pLt, pLe, pGt, pGe, pEq, pNe, pEqB, sEq, pIs, pIsNot, MP.isNon, pIx, fAbs, fMax2, fMin2, fInt, fLen, gSel, pick, AH.put_g, AH.put_n, AH.new_g, AH.new_n, AH.put_same, AH.new_same, AH.put_put, AH.new_put, List.length_cons, List.length_nil, List.map_cons, List.map_nil, List.cons_append, List.nil_append, List.append_nil, List.replicate, List.getElem?_cons_zero, List.getElem?_cons_succ, List.getElem?_nil, List.set_cons_zero, List.set_cons_succ, List.flatMap_cons, List.flatMap_nil, List.drop_zero, List.drop_succ_cons, List.drop_nil, List.take_succ_cons, List.take_zero, List.take_nil, List.contains_cons, List.contains_nil, Bool.or_false, Bool.or_true, Bool.true_or, Bool.false_or, Bool.and_true, Bool.and_false, Bool.not_true, Bool.not_false, beq_self_eq_true, Nat.reduceAdd, Nat.reduceSub, Nat.reduceLeDiff, Nat.reduceLT, Nat.reduceEqDiff, Nat.reduceBEq, Int.reduceToNat, ↓reduceIte, reduceIte, Bool.false_eq_true, ne_true_f, pow10_18, pow10_10, pow10_11, pow10_6, decide_eq_true_eq, and_self, and_true, true_and, Nat.zero_le, Option.map_some, Option.map_none, Option.bind_some, Int.reduceLT, Int.reduceLE, Int.reduceNeg, decide_true, decide_false, ixN_0, ixN_1, ixN_2, ixN_3, ixN_m1, atI_1, atI_2, atI_3, eq_self, Option.some.injEq, false_and, atI_0, Nat.zero_add, Nat.add_zero, sRaise, sRaise0, sTryO, noEx, fAny, fAll, blsL, compL, wipeD, CT.set, eComp, eCompN, lstOk, fSum, fTuple, fList, sAug, pAddI, pSubI, pIn, pNotIn, inB, MP.iZip, iEnumA, fSortP, fSortSet, eSl, partD, zipD_ints, pairsL_map, eBm, mAppend, List.any_cons, List.any_nil, List.all_cons, List.all_nil, id, List.length_append, List.zip_cons_cons, List.zip_nil_left, List.reverse_cons, List.reverse_nil, eqb_int, eqb_str, eqb_bl, kc0, kc1, kc2, kc3, kc4, kc5, kc6, kc7, kc8, kc9, kc10, kc11, kc12, kc13, kc14, kc15, kc16, kc17, kc18, kc19, kc20, Int.reduceBEq, Int.reduceMul, Int.reduceSub, Pool_get_kept, Pool_set_kept, Pool_put_0, Pool_no_stretches, Pool_no___len__, Pool_no_has, Pool_no_number_at, Pool_no_place_of, Pool_no_first_from, Pool_no_joined, Pool_no_met, Pool_no_without, Pool_no_dealt, Pool_no___eq__, Pool_no___str__, Pool_no___repr__, Q_law_fewest_2, hh _ _ (by omega)], fun _ => by simp (disch := omega) only [fnM, eVar, eC, eBin, eUn, aNil, aCons, eTup, eLst, eLstN, eFn, eIf, eFld, eCall, eMeth, eMake, insOf, tst, tstB, MP.tAnd, MP.tOr, MP.tNot, eAnd, eOr, eNot, eChain, truth, optR, Res.bind, Res.bindS, sNil, sSeq, sExp, sRet, sRetN, sIf, sAsg, sSet, sPar, MP.sFld, MP.sFldAug, sFor, nxO, gNm, gFld, gIx, setIx, setFld, gsNil, gsCons, gTp, gLs, MP.iRng1, MP.iRng2, iSeq, iLst, MP.iTup, seqL, seqM, seqT, seqX, eIsi, tyName, isi_ii, isi_ib, isi_bi, isi_bb, isi_ni, isi_si, isi_ss, isi_is, isi_tt, isi_ti, isi_li, pAdd, pSub, pMul_ok, pDiv_ok, pMod_ok, pNeg, pLt, pLe, pGt, pGe, pEq, pNe, pEqB, sEq, pIs, pIsNot, MP.isNon, pIx, fAbs, fMax2, fMin2, fInt, fLen, gSel, pick, AH.put_g, AH.put_n, AH.new_g, AH.new_n, AH.put_same, AH.new_same, AH.put_put, AH.new_put, List.length_cons, List.length_nil, List.map_cons, List.map_nil, List.cons_append, List.nil_append, List.append_nil, List.replicate, List.getElem?_cons_zero, List.getElem?_cons_succ, List.getElem?_nil, List.set_cons_zero, List.set_cons_succ, List.flatMap_cons, List.flatMap_nil, List.drop_zero, List.drop_succ_cons, List.drop_nil, List.take_succ_cons, List.take_zero, List.take_nil, List.contains_cons, List.contains_nil, Bool.or_false, Bool.or_true, Bool.true_or, Bool.false_or, Bool.and_true, Bool.and_false, Bool.not_true, Bool.not_false, beq_self_eq_true, Nat.reduceAdd, Nat.reduceSub, Nat.reduceLeDiff, Nat.reduceLT, Nat.reduceEqDiff, Nat.reduceBEq, Int.reduceToNat, ↓reduceIte, reduceIte, Bool.false_eq_true, ne_true_f, pow10_18, pow10_10, pow10_11, pow10_6, decide_eq_true_eq, and_self, and_true, true_and, Nat.zero_le, Option.map_some, Option.map_none, Option.bind_some, Int.reduceLT, Int.reduceLE, Int.reduceNeg, decide_true, decide_false, ixN_0, ixN_1, ixN_2, ixN_3, ixN_m1, atI_1, atI_2, atI_3, eq_self, Option.some.injEq, false_and, atI_0, Nat.zero_add, Nat.add_zero, sRaise, sRaise0, sTryO, noEx, fAny, fAll, blsL, compL, wipeD, CT.set, eComp, eCompN, lstOk, fSum, fTuple, fList, sAug, pAddI, pSubI, pIn, pNotIn, inB, MP.iZip, iEnumA, fSortP, fSortSet, eSl, partD, zipD_ints, pairsL_map, eBm, mAppend, List.any_cons, List.any_nil, List.all_cons, List.all_nil, id, List.length_append, List.zip_cons_cons, List.zip_nil_left, List.reverse_cons, List.reverse_nil, eqb_int, eqb_str, eqb_bl, kc0, kc1, kc2, kc3, kc4, kc5, kc6, kc7, kc8, kc9, kc10, kc11, kc12, kc13, kc14, kc15, kc16, kc17, kc18, kc19, kc20, Int.reduceBEq, Int.reduceMul, Int.reduceSub, Pool_get_kept, Pool_set_kept, Pool_put_0, Pool_no_stretches, Pool_no___len__, Pool_no_has, Pool_no_number_at, Pool_no_place_of, Pool_no_first_from, Pool_no_joined, Pool_no_met, Pool_no_without, Pool_no_dealt, Pool_no___eq__, Pool_no___str__, Pool_no___repr__, E_law_fewest_2]⟩) (by simp; omega)
  have C3 := fun l m => compL_map (ok := fun _ => true) (own := [3, 4]) (g := .tup [3, 4]) (t := tYesD) (e := E_law_fewest_3) (s := [some (.tup (ps.map tupP)), some (.lst l), some (.lst m), none, none]) (h := h) tupP (fun _ => true) (fun p => .tup [.int p.1, .int p.2]) rfl (fw ps) [] (fun p _ => ⟨[some (.tup (ps.map tupP)), some (.lst l), some (.lst m), some (.int p.1), some (.int p.2)], rfl, rfl, fun _ => by
    simp (disch := omega) only [fnM, eVar, eC, eBin, eUn, aNil, aCons, eTup, eLst, eLstN, eFn, eIf, eFld, eCall, eMeth, eMake, insOf, tst, tstB, MP.tAnd, MP.tOr, MP.tNot, eAnd, eOr, eNot, eChain, truth, optR, Res.bind, Res.bindS, sNil, sSeq, sExp, sRet, sRetN, sIf, sAsg, sSet, sPar, MP.sFld, MP.sFldAug, sFor, nxO, gNm, gFld, gIx, setIx, setFld, gsNil, gsCons, gTp, gLs, MP.iRng1, MP.iRng2, iSeq, iLst, MP.iTup, seqL, seqM, seqT, seqX, eIsi, tyName, isi_ii, isi_ib, isi_bi, isi_bb, isi_ni, isi_si, isi_ss, isi_is, isi_tt, isi_ti, isi_li, pAdd, pSub, pMul_ok, pDiv_ok, pMod_ok, pNeg, pLt, pLe, pGt, pGe, pEq, pNe, pEqB, sEq, pIs, pIsNot, MP.isNon, pIx, fAbs, fMax2, fMin2, fInt, fLen, gSel, pick, AH.put_g, AH.put_n, AH.new_g, AH.new_n, AH.put_same, AH.new_same, AH.put_put, AH.new_put, List.length_cons, List.length_nil, List.map_cons, List.map_nil, List.cons_append, List.nil_append, List.append_nil, List.replicate, List.getElem?_cons_zero, List.getElem?_cons_succ, List.getElem?_nil, List.set_cons_zero, List.set_cons_succ, List.flatMap_cons, List.flatMap_nil, List.drop_zero, List.drop_succ_cons, List.drop_nil, List.take_succ_cons, List.take_zero, List.take_nil, List.contains_cons, List.contains_nil, Bool.or_false, Bool.or_true, Bool.true_or, Bool.false_or, Bool.and_true, Bool.and_false, Bool.not_true, Bool.not_false, beq_self_eq_true, Nat.reduceAdd, Nat.reduceSub, Nat.reduceLeDiff, Nat.reduceLT, Nat.reduceEqDiff, Nat.reduceBEq, Int.reduceToNat, ↓reduceIte, reduceIte, Bool.false_eq_true, ne_true_f, pow10_18, pow10_10, pow10_11, pow10_6, decide_eq_true_eq, and_self, and_true, true_and, Nat.zero_le, Option.map_some, Option.map_none, Option.bind_some, Int.reduceLT, Int.reduceLE, Int.reduceNeg, decide_true, decide_false, ixN_0, ixN_1, ixN_2, ixN_3, ixN_m1, atI_1, atI_2, atI_3, eq_self, Option.some.injEq, false_and, atI_0, Nat.zero_add, Nat.add_zero, sRaise, sRaise0, sTryO, noEx, fAny, fAll, blsL, compL, wipeD, CT.set, eComp, eCompN, lstOk, fSum, fTuple, fList, sAug, pAddI, pSubI, pIn, pNotIn, inB, MP.iZip, iEnumA, fSortP, fSortSet, eSl, partD, zipD_ints, pairsL_map, eBm, mAppend, List.any_cons, List.any_nil, List.all_cons, List.all_nil, id, List.length_append, List.zip_cons_cons, List.zip_nil_left, List.reverse_cons, List.reverse_nil, eqb_int, eqb_str, eqb_bl, kc0, kc1, kc2, kc3, kc4, kc5, kc6, kc7, kc8, kc9, kc10, kc11, kc12, kc13, kc14, kc15, kc16, kc17, kc18, kc19, kc20, Int.reduceBEq, Int.reduceMul, Int.reduceSub, Pool_get_kept, Pool_set_kept, Pool_put_0, Pool_no_stretches, Pool_no___len__, Pool_no_has, Pool_no_number_at, Pool_no_place_of, Pool_no_first_from, Pool_no_joined, Pool_no_met, Pool_no_without, Pool_no_dealt, Pool_no___eq__, Pool_no___str__, Pool_no___repr__, E_law_fewest_3]⟩) (by have := fw_len ps; simp; omega)
  have i1 := i_lows ps
  have i2 := i_highs ps
  have g1 : (lows ps).length < 64 := by have := lows_len ps; omega
  have g2 : (highs ps).length < 64 := by have := highs_len ps; omega
  have z : zipD ((sortU (lows ps)).map .int) ((sortU (highs ps)).map .int) = (fw ps).map tupP := zipD_ints _ _
  simp only [filter_true] at C3
  simp (disch := omega) only [fnM, eVar, eC, eBin, eUn, aNil, aCons, eTup, eLst, eLstN, eFn, eIf, eFld, eCall, eMeth, eMake, insOf, tst, tstB, MP.tAnd, MP.tOr, MP.tNot, eAnd, eOr, eNot, eChain, truth, optR, Res.bind, Res.bindS, sNil, sSeq, sExp, sRet, sRetN, sIf, sAsg, sSet, sPar, MP.sFld, MP.sFldAug, sFor, nxO, gNm, gFld, gIx, setIx, setFld, gsNil, gsCons, gTp, gLs, MP.iRng1, MP.iRng2, iSeq, iLst, MP.iTup, seqL, seqM, seqT, seqX, eIsi, tyName, isi_ii, isi_ib, isi_bi, isi_bb, isi_ni, isi_si, isi_ss, isi_is, isi_tt, isi_ti, isi_li, pAdd, pSub, pMul_ok, pDiv_ok, pMod_ok, pNeg, pLt, pLe, pGt, pGe, pEq, pNe, pEqB, sEq, pIs, pIsNot, MP.isNon, pIx, fAbs, fMax2, fMin2, fInt, fLen, gSel, pick, AH.put_g, AH.put_n, AH.new_g, AH.new_n, AH.put_same, AH.new_same, AH.put_put, AH.new_put, List.length_cons, List.length_nil, List.map_cons, List.map_nil, List.cons_append, List.nil_append, List.append_nil, List.replicate, List.getElem?_cons_zero, List.getElem?_cons_succ, List.getElem?_nil, List.set_cons_zero, List.set_cons_succ, List.flatMap_cons, List.flatMap_nil, List.drop_zero, List.drop_succ_cons, List.drop_nil, List.take_succ_cons, List.take_zero, List.take_nil, List.contains_cons, List.contains_nil, Bool.or_false, Bool.or_true, Bool.true_or, Bool.false_or, Bool.and_true, Bool.and_false, Bool.not_true, Bool.not_false, beq_self_eq_true, Nat.reduceAdd, Nat.reduceSub, Nat.reduceLeDiff, Nat.reduceLT, Nat.reduceEqDiff, Nat.reduceBEq, Int.reduceToNat, ↓reduceIte, reduceIte, Bool.false_eq_true, ne_true_f, pow10_18, pow10_10, pow10_11, pow10_6, decide_eq_true_eq, and_self, and_true, true_and, Nat.zero_le, Option.map_some, Option.map_none, Option.bind_some, Int.reduceLT, Int.reduceLE, Int.reduceNeg, decide_true, decide_false, ixN_0, ixN_1, ixN_2, ixN_3, ixN_m1, atI_1, atI_2, atI_3, eq_self, Option.some.injEq, false_and, atI_0, Nat.zero_add, Nat.add_zero, sRaise, sRaise0, sTryO, noEx, fAny, fAll, blsL, compL, wipeD, CT.set, eComp, eCompN, lstOk, fSum, fTuple, fList, sAug, pAddI, pSubI, pIn, pNotIn, inB, MP.iZip, iEnumA, fSortP, fSortSet, eSl, partD, pairsL_map, eBm, mAppend, List.any_cons, List.any_nil, List.all_cons, List.all_nil, id, List.length_append, List.zip_cons_cons, List.zip_nil_left, List.reverse_cons, List.reverse_nil, eqb_int, eqb_str, eqb_bl, kc0, kc1, kc2, kc3, kc4, kc5, kc6, kc7, kc8, kc9, kc10, kc11, kc12, kc13, kc14, kc15, kc16, kc17, kc18, kc19, kc20, Int.reduceBEq, Int.reduceMul, Int.reduceSub, Pool_get_kept, Pool_set_kept, Pool_put_0, Pool_no_stretches, Pool_no___len__, Pool_no_has, Pool_no_number_at, Pool_no_place_of, Pool_no_first_from, Pool_no_joined, Pool_no_met, Pool_no_without, Pool_no_dealt, Pool_no___eq__, Pool_no___str__, Pool_no___repr__, f_law_fewest, b_law_fewest, C1, C2, C3, i1, i2, g1, g2, z]
  rfl

def Good (ps : List PRow) : Prop := ∀ p ∈ ps, 0 ≤ p.1 ∧ p.1 ≤ p.2 ∧ p.2 ≤ 999999
theorem Good.val {ps : List PRow} (g : Good ps) : Val ps := fun p hp => (g p hp).2.1
theorem within_eq (x lo hi : Int) (h : AH) : f_is_within [.int x, .int lo, .int hi] h = .ok (.bl (decide (lo ≤ x ∧ x ≤ hi))) h := by
  simp (disch := omega) only [fnM, eVar, eC, eBin, eUn, aNil, aCons, eTup, eLst, eLstN, eFn, eIf, eFld, eCall, eMeth, eMake, insOf, tst, tstB, MP.tAnd, MP.tOr, MP.tNot, eAnd, eOr, eNot, eChain, truth, optR, Res.bind, Res.bindS, sNil, sSeq, sExp, sRet, sRetN, sIf, sAsg, sSet, sPar, MP.sFld, MP.sFldAug, sFor, nxO, gNm, gFld, gIx, setIx, setFld, gsNil, gsCons, gTp, gLs, MP.iRng1, MP.iRng2, iSeq, iLst, MP.iTup, seqL, seqM, seqT, seqX, eIsi, tyName, isi_ii, isi_ib, isi_bi, isi_bb, isi_ni, isi_si, isi_ss, isi_is, isi_tt, isi_ti, isi_li, pAdd, pSub, pMul_ok, pDiv_ok, pMod_ok, pNeg, pLt, pLe, pGt, pGe, pEq, pNe, pEqB, sEq, pIs, pIsNot, MP.isNon, pIx, fAbs, fMax2, fMin2, fInt, fLen, gSel, pick, AH.put_g, AH.put_n, AH.new_g, AH.new_n, AH.put_same, AH.new_same, AH.put_put, AH.new_put, List.length_cons, List.length_nil, List.map_cons, List.map_nil, List.cons_append, List.nil_append, List.append_nil, List.replicate, List.getElem?_cons_zero, List.getElem?_cons_succ, List.getElem?_nil, List.set_cons_zero, List.set_cons_succ, List.flatMap_cons, List.flatMap_nil, List.drop_zero, List.drop_succ_cons, List.drop_nil, List.take_succ_cons, List.take_zero, List.take_nil, List.contains_cons, List.contains_nil, Bool.or_false, Bool.or_true, Bool.true_or, Bool.false_or, Bool.and_true, Bool.and_false, Bool.not_true, Bool.not_false, beq_self_eq_true, Nat.reduceAdd, Nat.reduceSub, Nat.reduceLeDiff, Nat.reduceLT, Nat.reduceEqDiff, Nat.reduceBEq, Int.reduceToNat, ↓reduceIte, reduceIte, Bool.false_eq_true, ne_true_f, pow10_18, pow10_10, pow10_11, pow10_6, decide_eq_true_eq, and_self, and_true, true_and, Nat.zero_le, Option.map_some, Option.map_none, Option.bind_some, Int.reduceLT, Int.reduceLE, Int.reduceNeg, decide_true, decide_false, ixN_0, ixN_1, ixN_2, ixN_3, ixN_m1, atI_1, atI_2, atI_3, eq_self, Option.some.injEq, false_and, atI_0, Nat.zero_add, Nat.add_zero, sRaise, sRaise0, sTryO, noEx, fAny, fAll, blsL, compL, wipeD, CT.set, eComp, eCompN, lstOk, fSum, fTuple, fList, sAug, pAddI, pSubI, pIn, pNotIn, inB, MP.iZip, iEnumA, fSortP, fSortSet, eSl, partD, zipD_ints, pairsL_map, eBm, mAppend, List.any_cons, List.any_nil, List.all_cons, List.all_nil, id, List.length_append, List.zip_cons_cons, List.zip_nil_left, List.reverse_cons, List.reverse_nil, eqb_int, eqb_str, eqb_bl, kc0, kc1, kc2, kc3, kc4, kc5, kc6, kc7, kc8, kc9, kc10, kc11, kc12, kc13, kc14, kc15, kc16, kc17, kc18, kc19, kc20, Int.reduceBEq, Int.reduceMul, Int.reduceSub, Pool_get_kept, Pool_set_kept, Pool_put_0, Pool_no_stretches, Pool_no___len__, Pool_no_has, Pool_no_number_at, Pool_no_place_of, Pool_no_first_from, Pool_no_joined, Pool_no_met, Pool_no_without, Pool_no_dealt, Pool_no___eq__, Pool_no___str__, Pool_no___repr__, f_is_within, b_is_within, f_is_whole, b_is_whole]
  by_cases h1 : lo ≤ x
  · simp (disch := omega) only [fnM, eVar, eC, eBin, eUn, aNil, aCons, eTup, eLst, eLstN, eFn, eIf, eFld, eCall, eMeth, eMake, insOf, tst, tstB, MP.tAnd, MP.tOr, MP.tNot, eAnd, eOr, eNot, eChain, truth, optR, Res.bind, Res.bindS, sNil, sSeq, sExp, sRet, sRetN, sIf, sAsg, sSet, sPar, MP.sFld, MP.sFldAug, sFor, nxO, gNm, gFld, gIx, setIx, setFld, gsNil, gsCons, gTp, gLs, MP.iRng1, MP.iRng2, iSeq, iLst, MP.iTup, seqL, seqM, seqT, seqX, eIsi, tyName, isi_ii, isi_ib, isi_bi, isi_bb, isi_ni, isi_si, isi_ss, isi_is, isi_tt, isi_ti, isi_li, pAdd, pSub, pMul_ok, pDiv_ok, pMod_ok, pNeg, pLt, pLe, pGt, pGe, pEq, pNe, pEqB, sEq, pIs, pIsNot, MP.isNon, pIx, fAbs, fMax2, fMin2, fInt, fLen, gSel, pick, AH.put_g, AH.put_n, AH.new_g, AH.new_n, AH.put_same, AH.new_same, AH.put_put, AH.new_put, List.length_cons, List.length_nil, List.map_cons, List.map_nil, List.cons_append, List.nil_append, List.append_nil, List.replicate, List.getElem?_cons_zero, List.getElem?_cons_succ, List.getElem?_nil, List.set_cons_zero, List.set_cons_succ, List.flatMap_cons, List.flatMap_nil, List.drop_zero, List.drop_succ_cons, List.drop_nil, List.take_succ_cons, List.take_zero, List.take_nil, List.contains_cons, List.contains_nil, Bool.or_false, Bool.or_true, Bool.true_or, Bool.false_or, Bool.and_true, Bool.and_false, Bool.not_true, Bool.not_false, beq_self_eq_true, Nat.reduceAdd, Nat.reduceSub, Nat.reduceLeDiff, Nat.reduceLT, Nat.reduceEqDiff, Nat.reduceBEq, Int.reduceToNat, ↓reduceIte, reduceIte, Bool.false_eq_true, ne_true_f, pow10_18, pow10_10, pow10_11, pow10_6, decide_eq_true_eq, and_self, and_true, true_and, Nat.zero_le, Option.map_some, Option.map_none, Option.bind_some, Int.reduceLT, Int.reduceLE, Int.reduceNeg, decide_true, decide_false, ixN_0, ixN_1, ixN_2, ixN_3, ixN_m1, atI_1, atI_2, atI_3, eq_self, Option.some.injEq, false_and, atI_0, Nat.zero_add, Nat.add_zero, sRaise, sRaise0, sTryO, noEx, fAny, fAll, blsL, compL, wipeD, CT.set, eComp, eCompN, lstOk, fSum, fTuple, fList, sAug, pAddI, pSubI, pIn, pNotIn, inB, MP.iZip, iEnumA, fSortP, fSortSet, eSl, partD, zipD_ints, pairsL_map, eBm, mAppend, List.any_cons, List.any_nil, List.all_cons, List.all_nil, id, List.length_append, List.zip_cons_cons, List.zip_nil_left, List.reverse_cons, List.reverse_nil, eqb_int, eqb_str, eqb_bl, kc0, kc1, kc2, kc3, kc4, kc5, kc6, kc7, kc8, kc9, kc10, kc11, kc12, kc13, kc14, kc15, kc16, kc17, kc18, kc19, kc20, Int.reduceBEq, Int.reduceMul, Int.reduceSub, Pool_get_kept, Pool_set_kept, Pool_put_0, Pool_no_stretches, Pool_no___len__, Pool_no_has, Pool_no_number_at, Pool_no_place_of, Pool_no_first_from, Pool_no_joined, Pool_no_met, Pool_no_without, Pool_no_dealt, Pool_no___eq__, Pool_no___str__, Pool_no___repr__, h1]
  · simp (disch := omega) only [fnM, eVar, eC, eBin, eUn, aNil, aCons, eTup, eLst, eLstN, eFn, eIf, eFld, eCall, eMeth, eMake, insOf, tst, tstB, MP.tAnd, MP.tOr, MP.tNot, eAnd, eOr, eNot, eChain, truth, optR, Res.bind, Res.bindS, sNil, sSeq, sExp, sRet, sRetN, sIf, sAsg, sSet, sPar, MP.sFld, MP.sFldAug, sFor, nxO, gNm, gFld, gIx, setIx, setFld, gsNil, gsCons, gTp, gLs, MP.iRng1, MP.iRng2, iSeq, iLst, MP.iTup, seqL, seqM, seqT, seqX, eIsi, tyName, isi_ii, isi_ib, isi_bi, isi_bb, isi_ni, isi_si, isi_ss, isi_is, isi_tt, isi_ti, isi_li, pAdd, pSub, pMul_ok, pDiv_ok, pMod_ok, pNeg, pLt, pLe, pGt, pGe, pEq, pNe, pEqB, sEq, pIs, pIsNot, MP.isNon, pIx, fAbs, fMax2, fMin2, fInt, fLen, gSel, pick, AH.put_g, AH.put_n, AH.new_g, AH.new_n, AH.put_same, AH.new_same, AH.put_put, AH.new_put, List.length_cons, List.length_nil, List.map_cons, List.map_nil, List.cons_append, List.nil_append, List.append_nil, List.replicate, List.getElem?_cons_zero, List.getElem?_cons_succ, List.getElem?_nil, List.set_cons_zero, List.set_cons_succ, List.flatMap_cons, List.flatMap_nil, List.drop_zero, List.drop_succ_cons, List.drop_nil, List.take_succ_cons, List.take_zero, List.take_nil, List.contains_cons, List.contains_nil, Bool.or_false, Bool.or_true, Bool.true_or, Bool.false_or, Bool.and_true, Bool.and_false, Bool.not_true, Bool.not_false, beq_self_eq_true, Nat.reduceAdd, Nat.reduceSub, Nat.reduceLeDiff, Nat.reduceLT, Nat.reduceEqDiff, Nat.reduceBEq, Int.reduceToNat, ↓reduceIte, reduceIte, Bool.false_eq_true, ne_true_f, pow10_18, pow10_10, pow10_11, pow10_6, decide_eq_true_eq, and_self, and_true, true_and, Nat.zero_le, Option.map_some, Option.map_none, Option.bind_some, Int.reduceLT, Int.reduceLE, Int.reduceNeg, decide_true, decide_false, ixN_0, ixN_1, ixN_2, ixN_3, ixN_m1, atI_1, atI_2, atI_3, eq_self, Option.some.injEq, false_and, atI_0, Nat.zero_add, Nat.add_zero, sRaise, sRaise0, sTryO, noEx, fAny, fAll, blsL, compL, wipeD, CT.set, eComp, eCompN, lstOk, fSum, fTuple, fList, sAug, pAddI, pSubI, pIn, pNotIn, inB, MP.iZip, iEnumA, fSortP, fSortSet, eSl, partD, zipD_ints, pairsL_map, eBm, mAppend, List.any_cons, List.any_nil, List.all_cons, List.all_nil, id, List.length_append, List.zip_cons_cons, List.zip_nil_left, List.reverse_cons, List.reverse_nil, eqb_int, eqb_str, eqb_bl, kc0, kc1, kc2, kc3, kc4, kc5, kc6, kc7, kc8, kc9, kc10, kc11, kc12, kc13, kc14, kc15, kc16, kc17, kc18, kc19, kc20, Int.reduceBEq, Int.reduceMul, Int.reduceSub, Pool_get_kept, Pool_set_kept, Pool_put_0, Pool_no_stretches, Pool_no___len__, Pool_no_has, Pool_no_number_at, Pool_no_place_of, Pool_no_first_from, Pool_no_joined, Pool_no_met, Pool_no_without, Pool_no_dealt, Pool_no___eq__, Pool_no___str__, Pool_no___repr__, h1]
theorem stretch_ok {p : PRow} (g : 0 ≤ p.1 ∧ p.1 ≤ p.2 ∧ p.2 ≤ 999999) (h : AH) : f_is_stretch [tupP p] h = .ok (.bl true) h := by
  have h1 : decide (0 ≤ p.1 ∧ p.1 ≤ 999999) = true := decide_eq_true (by omega)
  have h2 : decide (0 ≤ p.2 ∧ p.2 ≤ 999999) = true := decide_eq_true (by omega)
  have h3 : decide (p.1 ≤ p.2) = true := decide_eq_true g.2.1
  unfold tupP
  simp (disch := omega) only [fnM, eVar, eC, eBin, eUn, aNil, aCons, eTup, eLst, eLstN, eFn, eIf, eFld, eCall, eMeth, eMake, insOf, tst, tstB, MP.tAnd, MP.tOr, MP.tNot, eAnd, eOr, eNot, eChain, truth, optR, Res.bind, Res.bindS, sNil, sSeq, sExp, sRet, sRetN, sIf, sAsg, sSet, sPar, MP.sFld, MP.sFldAug, sFor, nxO, gNm, gFld, gIx, setIx, setFld, gsNil, gsCons, gTp, gLs, MP.iRng1, MP.iRng2, iSeq, iLst, MP.iTup, seqL, seqM, seqT, seqX, eIsi, tyName, isi_ii, isi_ib, isi_bi, isi_bb, isi_ni, isi_si, isi_ss, isi_is, isi_tt, isi_ti, isi_li, pAdd, pSub, pMul_ok, pDiv_ok, pMod_ok, pNeg, pLt, pLe, pGt, pGe, pEq, pNe, pEqB, sEq, pIs, pIsNot, MP.isNon, pIx, fAbs, fMax2, fMin2, fInt, fLen, gSel, pick, AH.put_g, AH.put_n, AH.new_g, AH.new_n, AH.put_same, AH.new_same, AH.put_put, AH.new_put, List.length_cons, List.length_nil, List.map_cons, List.map_nil, List.cons_append, List.nil_append, List.append_nil, List.replicate, List.getElem?_cons_zero, List.getElem?_cons_succ, List.getElem?_nil, List.set_cons_zero, List.set_cons_succ, List.flatMap_cons, List.flatMap_nil, List.drop_zero, List.drop_succ_cons, List.drop_nil, List.take_succ_cons, List.take_zero, List.take_nil, List.contains_cons, List.contains_nil, Bool.or_false, Bool.or_true, Bool.true_or, Bool.false_or, Bool.and_true, Bool.and_false, Bool.not_true, Bool.not_false, beq_self_eq_true, Nat.reduceAdd, Nat.reduceSub, Nat.reduceLeDiff, Nat.reduceLT, Nat.reduceEqDiff, Nat.reduceBEq, Int.reduceToNat, ↓reduceIte, reduceIte, Bool.false_eq_true, ne_true_f, pow10_18, pow10_10, pow10_11, pow10_6, decide_eq_true_eq, and_self, and_true, true_and, Nat.zero_le, Option.map_some, Option.map_none, Option.bind_some, Int.reduceLT, Int.reduceLE, Int.reduceNeg, decide_true, decide_false, ixN_0, ixN_1, ixN_2, ixN_3, ixN_m1, atI_1, atI_2, atI_3, eq_self, Option.some.injEq, false_and, atI_0, Nat.zero_add, Nat.add_zero, sRaise, sRaise0, sTryO, noEx, fAny, fAll, blsL, compL, wipeD, CT.set, eComp, eCompN, lstOk, fSum, fTuple, fList, sAug, pAddI, pSubI, pIn, pNotIn, inB, MP.iZip, iEnumA, fSortP, fSortSet, eSl, partD, zipD_ints, pairsL_map, eBm, mAppend, List.any_cons, List.any_nil, List.all_cons, List.all_nil, id, List.length_append, List.zip_cons_cons, List.zip_nil_left, List.reverse_cons, List.reverse_nil, eqb_int, eqb_str, eqb_bl, kc0, kc1, kc2, kc3, kc4, kc5, kc6, kc7, kc8, kc9, kc10, kc11, kc12, kc13, kc14, kc15, kc16, kc17, kc18, kc19, kc20, Int.reduceBEq, Int.reduceMul, Int.reduceSub, Pool_get_kept, Pool_set_kept, Pool_put_0, Pool_no_stretches, Pool_no___len__, Pool_no_has, Pool_no_number_at, Pool_no_place_of, Pool_no_first_from, Pool_no_joined, Pool_no_met, Pool_no_without, Pool_no_dealt, Pool_no___eq__, Pool_no___str__, Pool_no___repr__, f_is_stretch, b_is_stretch, E_is_stretch_1, tYesD, within_eq, h1, h2, h3]
theorem look_ok {ps : List PRow} (g : Good ps) (hl : ps.length ≤ 20) (h : AH) : f_look_stretches [.tup (ps.map tupP)] h = .ok .non h := by
  have F : ∃ s' h', forL (fun _ => true) (gTp 2 (gsCons (gNm 1) (gsCons (gNm 2) gsNil))) L_look_stretches_1 (numD (ps.map tupP)) [some (.tup (ps.map tupP)), none, none] h = .nx s' h' ∧ h' = h := by
    obtain ⟨s', h', e, x, y, _, e2⟩ := forL_all (ok := fun _ => true) (g := gTp 2 (gsCons (gNm 1) (gsCons (gNm 2) gsNil))) (b := L_look_stretches_1) (fun _ s h' => ∃ x y, s = [some (.tup (ps.map tupP)), x, y] ∧ h' = h) (fun _ _ _ _ => rfl) (numD (ps.map tupP)) 0
      [some (.tup (ps.map tupP)), none, none] h ⟨none, none, rfl, rfl⟩ (fun j d s h' hd ⟨x, y, es, eh⟩ => by
        subst es eh
        obtain ⟨d2, hd2, rfl⟩ := numD_get hd
        rw [List.getElem?_map] at hd2
        cases q : ps[j]? with
        | none => rw [q] at hd2; cases hd2
        | some p =>
          rw [q] at hd2
          cases hd2
          have st := stretch_ok (g p (List.mem_of_getElem? q)) h'
          refine ⟨[some (.tup (ps.map tupP)), some (.int (j : Nat)), some (tupP p)], h', [some (.tup (ps.map tupP)), some (.int (j : Nat)), some (tupP p)], h', rfl, .inl ?_, _, _, rfl, rfl⟩
          simp (disch := omega) only [fnM, eVar, eC, eBin, eUn, aNil, aCons, eTup, eLst, eLstN, eFn, eIf, eFld, eCall, eMeth, eMake, insOf, tst, tstB, MP.tAnd, MP.tOr, MP.tNot, eAnd, eOr, eNot, eChain, truth, optR, Res.bind, Res.bindS, sNil, sSeq, sExp, sRet, sRetN, sIf, sAsg, sSet, sPar, MP.sFld, MP.sFldAug, sFor, nxO, gNm, gFld, gIx, setIx, setFld, gsNil, gsCons, gTp, gLs, MP.iRng1, MP.iRng2, iSeq, iLst, MP.iTup, seqL, seqM, seqT, seqX, eIsi, tyName, isi_ii, isi_ib, isi_bi, isi_bb, isi_ni, isi_si, isi_ss, isi_is, isi_tt, isi_ti, isi_li, pAdd, pSub, pMul_ok, pDiv_ok, pMod_ok, pNeg, pLt, pLe, pGt, pGe, pEq, pNe, pEqB, sEq, pIs, pIsNot, MP.isNon, pIx, fAbs, fMax2, fMin2, fInt, fLen, gSel, pick, AH.put_g, AH.put_n, AH.new_g, AH.new_n, AH.put_same, AH.new_same, AH.put_put, AH.new_put, List.length_cons, List.length_nil, List.map_cons, List.map_nil, List.cons_append, List.nil_append, List.append_nil, List.replicate, List.getElem?_cons_zero, List.getElem?_cons_succ, List.getElem?_nil, List.set_cons_zero, List.set_cons_succ, List.flatMap_cons, List.flatMap_nil, List.drop_zero, List.drop_succ_cons, List.drop_nil, List.take_succ_cons, List.take_zero, List.take_nil, List.contains_cons, List.contains_nil, Bool.or_false, Bool.or_true, Bool.true_or, Bool.false_or, Bool.and_true, Bool.and_false, Bool.not_true, Bool.not_false, beq_self_eq_true, Nat.reduceAdd, Nat.reduceSub, Nat.reduceLeDiff, Nat.reduceLT, Nat.reduceEqDiff, Nat.reduceBEq, Int.reduceToNat, ↓reduceIte, reduceIte, Bool.false_eq_true, ne_true_f, pow10_18, pow10_10, pow10_11, pow10_6, decide_eq_true_eq, and_self, and_true, true_and, Nat.zero_le, Option.map_some, Option.map_none, Option.bind_some, Int.reduceLT, Int.reduceLE, Int.reduceNeg, decide_true, decide_false, ixN_0, ixN_1, ixN_2, ixN_3, ixN_m1, atI_1, atI_2, atI_3, eq_self, Option.some.injEq, false_and, atI_0, Nat.zero_add, Nat.add_zero, sRaise, sRaise0, sTryO, noEx, fAny, fAll, blsL, compL, wipeD, CT.set, eComp, eCompN, lstOk, fSum, fTuple, fList, sAug, pAddI, pSubI, pIn, pNotIn, inB, MP.iZip, iEnumA, fSortP, fSortSet, eSl, partD, zipD_ints, pairsL_map, eBm, mAppend, List.any_cons, List.any_nil, List.all_cons, List.all_nil, id, List.length_append, List.zip_cons_cons, List.zip_nil_left, List.reverse_cons, List.reverse_nil, eqb_int, eqb_str, eqb_bl, kc0, kc1, kc2, kc3, kc4, kc5, kc6, kc7, kc8, kc9, kc10, kc11, kc12, kc13, kc14, kc15, kc16, kc17, kc18, kc19, kc20, Int.reduceBEq, Int.reduceMul, Int.reduceSub, Pool_get_kept, Pool_set_kept, Pool_put_0, Pool_no_stretches, Pool_no___len__, Pool_no_has, Pool_no_number_at, Pool_no_place_of, Pool_no_first_from, Pool_no_joined, Pool_no_met, Pool_no_without, Pool_no_dealt, Pool_no___eq__, Pool_no___str__, Pool_no___repr__, L_look_stretches_1, st])
    exact ⟨s', h', e, e2⟩
  obtain ⟨s', h', e, rfl⟩ := F
  have hn : ¬ (20 : Int) < (ps.length : Int) := by omega
  simp (disch := omega) only [fnM, eVar, eC, eBin, eUn, aNil, aCons, eTup, eLst, eLstN, eFn, eIf, eFld, eCall, eMeth, eMake, insOf, tst, tstB, MP.tAnd, MP.tOr, MP.tNot, eAnd, eOr, eNot, eChain, truth, optR, Res.bind, Res.bindS, sNil, sSeq, sExp, sRet, sRetN, sIf, sAsg, sSet, sPar, MP.sFld, MP.sFldAug, sFor, nxO, gNm, gFld, gIx, setIx, setFld, gsNil, gsCons, gTp, gLs, MP.iRng1, MP.iRng2, iSeq, iLst, MP.iTup, seqL, seqM, seqT, seqX, eIsi, tyName, isi_ii, isi_ib, isi_bi, isi_bb, isi_ni, isi_si, isi_ss, isi_is, isi_tt, isi_ti, isi_li, pAdd, pSub, pMul_ok, pDiv_ok, pMod_ok, pNeg, pLt, pLe, pGt, pGe, pEq, pNe, pEqB, sEq, pIs, pIsNot, MP.isNon, pIx, fAbs, fMax2, fMin2, fInt, fLen, gSel, pick, AH.put_g, AH.put_n, AH.new_g, AH.new_n, AH.put_same, AH.new_same, AH.put_put, AH.new_put, List.length_cons, List.length_nil, List.map_cons, List.map_nil, List.cons_append, List.nil_append, List.append_nil, List.replicate, List.getElem?_cons_zero, List.getElem?_cons_succ, List.getElem?_nil, List.set_cons_zero, List.set_cons_succ, List.flatMap_cons, List.flatMap_nil, List.drop_zero, List.drop_succ_cons, List.drop_nil, List.take_succ_cons, List.take_zero, List.take_nil, List.contains_cons, List.contains_nil, Bool.or_false, Bool.or_true, Bool.true_or, Bool.false_or, Bool.and_true, Bool.and_false, Bool.not_true, Bool.not_false, beq_self_eq_true, Nat.reduceAdd, Nat.reduceSub, Nat.reduceLeDiff, Nat.reduceLT, Nat.reduceEqDiff, Nat.reduceBEq, Int.reduceToNat, ↓reduceIte, reduceIte, Bool.false_eq_true, ne_true_f, pow10_18, pow10_10, pow10_11, pow10_6, decide_eq_true_eq, and_self, and_true, true_and, Nat.zero_le, Option.map_some, Option.map_none, Option.bind_some, Int.reduceLT, Int.reduceLE, Int.reduceNeg, decide_true, decide_false, ixN_0, ixN_1, ixN_2, ixN_3, ixN_m1, atI_1, atI_2, atI_3, eq_self, Option.some.injEq, false_and, atI_0, Nat.zero_add, Nat.add_zero, sRaise, sRaise0, sTryO, noEx, fAny, fAll, blsL, compL, wipeD, CT.set, eComp, eCompN, lstOk, fSum, fTuple, fList, sAug, pAddI, pSubI, pIn, pNotIn, inB, MP.iZip, iEnumA, fSortP, fSortSet, eSl, partD, zipD_ints, pairsL_map, eBm, mAppend, List.any_cons, List.any_nil, List.all_cons, List.all_nil, id, List.length_append, List.zip_cons_cons, List.zip_nil_left, List.reverse_cons, List.reverse_nil, eqb_int, eqb_str, eqb_bl, kc0, kc1, kc2, kc3, kc4, kc5, kc6, kc7, kc8, kc9, kc10, kc11, kc12, kc13, kc14, kc15, kc16, kc17, kc18, kc19, kc20, Int.reduceBEq, Int.reduceMul, Int.reduceSub, Pool_get_kept, Pool_set_kept, Pool_put_0, Pool_no_stretches, Pool_no___len__, Pool_no_has, Pool_no_number_at, Pool_no_place_of, Pool_no_first_from, Pool_no_joined, Pool_no_met, Pool_no_without, Pool_no_dealt, Pool_no___eq__, Pool_no___str__, Pool_no___repr__, f_look_stretches, b_look_stretches, List.length_map, hn, e]

theorem fstep_ok {sc : Option D} {h : AH} {b : Nat} {acc : List PRow} {p : PRow} (e : h.g b = some (.lst (acc.map tupP))) (hl : acc.length < 1000) :
    L_fewest_1 [sc, some (.ref b), some (.int p.1), some (.int p.2)] h = .nx [sc, some (.ref b), some (.int p.1), some (.int p.2)] (h.put b (.lst ((mstep acc p).map tupP))) := by
  have ne := eqb_nilL e
  have hlt : (acc.map tupP).length < 100000 := by rw [List.length_map]; omega
  have ap : ∀ q : PRow, acc.map tupP ++ [.tup [.int q.1, .int q.2]] = (acc ++ [q]).map tupP := fun q => by rw [List.map_append]; rfl
  rcases List.eq_nil_or_concat acc with rfl | ⟨i, q, rfl⟩
  · rw [mstep_nil]
    simp (disch := omega) only [fnM, eVar, eC, eBin, eUn, aNil, aCons, eTup, eLst, eLstN, eFn, eIf, eFld, eCall, eMeth, eMake, insOf, tst, tstB, MP.tAnd, MP.tOr, MP.tNot, eAnd, eOr, eNot, eChain, truth, optR, Res.bind, Res.bindS, sNil, sSeq, sExp, sRet, sRetN, sIf, sAsg, sSet, sPar, MP.sFld, MP.sFldAug, sFor, nxO, gNm, gFld, gIx, setIx, setFld, gsNil, gsCons, gTp, gLs, MP.iRng1, MP.iRng2, iSeq, iLst, MP.iTup, seqL, seqM, seqT, seqX, eIsi, tyName, isi_ii, isi_ib, isi_bi, isi_bb, isi_ni, isi_si, isi_ss, isi_is, isi_tt, isi_ti, isi_li, pAdd, pSub, pMul_ok, pDiv_ok, pMod_ok, pNeg, pLt, pLe, pGt, pGe, pEq, pNe, sEq, pIs, pIsNot, MP.isNon, pIx, fAbs, fMax2, fMin2, fInt, fLen, gSel, pick, AH.put_g, AH.put_n, AH.new_g, AH.new_n, AH.put_same, AH.new_same, AH.put_put, AH.new_put, List.length_cons, List.length_nil, List.map_cons, List.map_nil, List.cons_append, List.nil_append, List.append_nil, List.replicate, List.getElem?_cons_zero, List.getElem?_cons_succ, List.getElem?_nil, List.set_cons_zero, List.set_cons_succ, List.flatMap_cons, List.flatMap_nil, List.drop_zero, List.drop_succ_cons, List.drop_nil, List.take_succ_cons, List.take_zero, List.take_nil, List.contains_cons, List.contains_nil, Bool.or_false, Bool.or_true, Bool.true_or, Bool.false_or, Bool.and_true, Bool.and_false, Bool.not_true, Bool.not_false, beq_self_eq_true, Nat.reduceAdd, Nat.reduceSub, Nat.reduceLeDiff, Nat.reduceLT, Nat.reduceEqDiff, Nat.reduceBEq, Int.reduceToNat, ↓reduceIte, reduceIte, Bool.false_eq_true, ne_true_f, pow10_18, pow10_10, pow10_11, pow10_6, decide_eq_true_eq, and_self, and_true, true_and, Nat.zero_le, Option.map_some, Option.map_none, Option.bind_some, Int.reduceLT, Int.reduceLE, Int.reduceNeg, decide_true, decide_false, ixN_0, ixN_1, ixN_2, ixN_3, ixN_m1, atI_1, atI_2, atI_3, eq_self, Option.some.injEq, false_and, atI_0, Nat.zero_add, Nat.add_zero, sRaise, sRaise0, sTryO, noEx, fAny, fAll, blsL, compL, wipeD, CT.set, eComp, eCompN, lstOk, fSum, fTuple, fList, sAug, pAddI, pSubI, pIn, pNotIn, inB, MP.iZip, iEnumA, fSortP, fSortSet, eSl, partD, zipD_ints, pairsL_map, eBm, mAppend, List.any_cons, List.any_nil, List.all_cons, List.all_nil, id, List.length_append, List.zip_cons_cons, List.zip_nil_left, List.reverse_cons, List.reverse_nil, eqb_int, eqb_str, eqb_bl, kc0, kc1, kc2, kc3, kc4, kc5, kc6, kc7, kc8, kc9, kc10, kc11, kc12, kc13, kc14, kc15, kc16, kc17, kc18, kc19, kc20, Int.reduceBEq, Int.reduceMul, Int.reduceSub, Pool_get_kept, Pool_set_kept, Pool_put_0, Pool_no_stretches, Pool_no___len__, Pool_no_has, Pool_no_number_at, Pool_no_place_of, Pool_no_first_from, Pool_no_joined, Pool_no_met, Pool_no_without, Pool_no_dealt, Pool_no___eq__, Pool_no___str__, Pool_no___repr__, L_fewest_1, ne, e, List.isEmpty_nil, tupP]
  · rw [List.concat_eq_append] at e ne hlt ap ⊢
    have l1 : atI ((i ++ [q]).map tupP) (-1) = some (.tup [.int q.1, .int q.2]) := at_last tupP i q
    have l2 := ix_last tupP i q
    have l3 : ((i ++ [q]).map tupP).set i.length (.tup [.int q.1, .int (if p.2 > q.2 then p.2 else q.2)]) = (i ++ [(q.1, if p.2 > q.2 then p.2 else q.2)]).map tupP := set_last tupP i q (q.1, if p.2 > q.2 then p.2 else q.2)
    have em : (i ++ [q]).isEmpty = false := by simp
    rw [mstep_snoc]
    by_cases hc : p.1 ≤ q.2 + 1
    · rw [if_pos hc]
      rw [← l3]
      simp (disch := omega) only [fnM, eVar, eC, eBin, eUn, aNil, aCons, eTup, eLst, eLstN, eFn, eIf, eFld, eCall, eMeth, eMake, insOf, tst, tstB, MP.tAnd, MP.tOr, MP.tNot, eAnd, eOr, eNot, eChain, truth, optR, Res.bind, Res.bindS, sNil, sSeq, sExp, sRet, sRetN, sIf, sAsg, sSet, sPar, MP.sFld, MP.sFldAug, sFor, nxO, gNm, gFld, gIx, setIx, setFld, gsNil, gsCons, gTp, gLs, MP.iRng1, MP.iRng2, iSeq, iLst, MP.iTup, seqL, seqM, seqT, seqX, eIsi, tyName, isi_ii, isi_ib, isi_bi, isi_bb, isi_ni, isi_si, isi_ss, isi_is, isi_tt, isi_ti, isi_li, pAdd, pSub, pMul_ok, pDiv_ok, pMod_ok, pNeg, pLt, pLe, pGt, pGe, pEq, pNe, sEq, pIs, pIsNot, MP.isNon, pIx, fAbs, fMax2, fMin2, fInt, fLen, gSel, pick, AH.put_g, AH.put_n, AH.new_g, AH.new_n, AH.put_same, AH.new_same, AH.put_put, AH.new_put, List.length_cons, List.length_nil, List.map_cons, List.map_nil, List.cons_append, List.nil_append, List.append_nil, List.replicate, List.getElem?_cons_zero, List.getElem?_cons_succ, List.getElem?_nil, List.set_cons_zero, List.set_cons_succ, List.flatMap_cons, List.flatMap_nil, List.drop_zero, List.drop_succ_cons, List.drop_nil, List.take_succ_cons, List.take_zero, List.take_nil, List.contains_cons, List.contains_nil, Bool.or_false, Bool.or_true, Bool.true_or, Bool.false_or, Bool.and_true, Bool.and_false, Bool.not_true, Bool.not_false, beq_self_eq_true, Nat.reduceAdd, Nat.reduceSub, Nat.reduceLeDiff, Nat.reduceLT, Nat.reduceEqDiff, Nat.reduceBEq, Int.reduceToNat, ↓reduceIte, reduceIte, Bool.false_eq_true, ne_true_f, pow10_18, pow10_10, pow10_11, pow10_6, decide_eq_true_eq, and_self, and_true, true_and, Nat.zero_le, Option.map_some, Option.map_none, Option.bind_some, Int.reduceLT, Int.reduceLE, Int.reduceNeg, decide_true, decide_false, ixN_0, ixN_1, ixN_2, ixN_3, ixN_m1, atI_1, atI_2, atI_3, eq_self, Option.some.injEq, false_and, atI_0, Nat.zero_add, Nat.add_zero, sRaise, sRaise0, sTryO, noEx, fAny, fAll, blsL, compL, wipeD, CT.set, eComp, eCompN, lstOk, fSum, fTuple, fList, sAug, pAddI, pSubI, pIn, pNotIn, inB, MP.iZip, iEnumA, fSortP, fSortSet, eSl, partD, zipD_ints, pairsL_map, eBm, mAppend, List.any_cons, List.any_nil, List.all_cons, List.all_nil, id, List.length_append, List.zip_cons_cons, List.zip_nil_left, List.reverse_cons, List.reverse_nil, eqb_int, eqb_str, eqb_bl, kc0, kc1, kc2, kc3, kc4, kc5, kc6, kc7, kc8, kc9, kc10, kc11, kc12, kc13, kc14, kc15, kc16, kc17, kc18, kc19, kc20, Int.reduceBEq, Int.reduceMul, Int.reduceSub, Pool_get_kept, Pool_set_kept, Pool_put_0, Pool_no_stretches, Pool_no___len__, Pool_no_has, Pool_no_number_at, Pool_no_place_of, Pool_no_first_from, Pool_no_joined, Pool_no_met, Pool_no_without, Pool_no_dealt, Pool_no___eq__, Pool_no___str__, Pool_no___repr__, L_fewest_1, ne, e, em, hc, l1, l2]
    · rw [if_neg hc]
      rw [← ap]
      simp (disch := omega) only [fnM, eVar, eC, eBin, eUn, aNil, aCons, eTup, eLst, eLstN, eFn, eIf, eFld, eCall, eMeth, eMake, insOf, tst, tstB, MP.tAnd, MP.tOr, MP.tNot, eAnd, eOr, eNot, eChain, truth, optR, Res.bind, Res.bindS, sNil, sSeq, sExp, sRet, sRetN, sIf, sAsg, sSet, sPar, MP.sFld, MP.sFldAug, sFor, nxO, gNm, gFld, gIx, setIx, setFld, gsNil, gsCons, gTp, gLs, MP.iRng1, MP.iRng2, iSeq, iLst, MP.iTup, seqL, seqM, seqT, seqX, eIsi, tyName, isi_ii, isi_ib, isi_bi, isi_bb, isi_ni, isi_si, isi_ss, isi_is, isi_tt, isi_ti, isi_li, pAdd, pSub, pMul_ok, pDiv_ok, pMod_ok, pNeg, pLt, pLe, pGt, pGe, pEq, pNe, sEq, pIs, pIsNot, MP.isNon, pIx, fAbs, fMax2, fMin2, fInt, fLen, gSel, pick, AH.put_g, AH.put_n, AH.new_g, AH.new_n, AH.put_same, AH.new_same, AH.put_put, AH.new_put, List.length_cons, List.length_nil, List.map_cons, List.map_nil, List.cons_append, List.nil_append, List.append_nil, List.replicate, List.getElem?_cons_zero, List.getElem?_cons_succ, List.getElem?_nil, List.set_cons_zero, List.set_cons_succ, List.flatMap_cons, List.flatMap_nil, List.drop_zero, List.drop_succ_cons, List.drop_nil, List.take_succ_cons, List.take_zero, List.take_nil, List.contains_cons, List.contains_nil, Bool.or_false, Bool.or_true, Bool.true_or, Bool.false_or, Bool.and_true, Bool.and_false, Bool.not_true, Bool.not_false, beq_self_eq_true, Nat.reduceAdd, Nat.reduceSub, Nat.reduceLeDiff, Nat.reduceLT, Nat.reduceEqDiff, Nat.reduceBEq, Int.reduceToNat, ↓reduceIte, reduceIte, Bool.false_eq_true, ne_true_f, pow10_18, pow10_10, pow10_11, pow10_6, decide_eq_true_eq, and_self, and_true, true_and, Nat.zero_le, Option.map_some, Option.map_none, Option.bind_some, Int.reduceLT, Int.reduceLE, Int.reduceNeg, decide_true, decide_false, ixN_0, ixN_1, ixN_2, ixN_3, ixN_m1, atI_1, atI_2, atI_3, eq_self, Option.some.injEq, false_and, atI_0, Nat.zero_add, Nat.add_zero, sRaise, sRaise0, sTryO, noEx, fAny, fAll, blsL, compL, wipeD, CT.set, eComp, eCompN, lstOk, fSum, fTuple, fList, sAug, pAddI, pSubI, pIn, pNotIn, inB, MP.iZip, iEnumA, fSortP, fSortSet, eSl, partD, zipD_ints, pairsL_map, eBm, mAppend, List.any_cons, List.any_nil, List.all_cons, List.all_nil, id, List.length_append, List.zip_cons_cons, List.zip_nil_left, List.reverse_cons, List.reverse_nil, eqb_int, eqb_str, eqb_bl, kc0, kc1, kc2, kc3, kc4, kc5, kc6, kc7, kc8, kc9, kc10, kc11, kc12, kc13, kc14, kc15, kc16, kc17, kc18, kc19, kc20, Int.reduceBEq, Int.reduceMul, Int.reduceSub, Pool_get_kept, Pool_set_kept, Pool_put_0, Pool_no_stretches, Pool_no___len__, Pool_no_has, Pool_no_number_at, Pool_no_place_of, Pool_no_first_from, Pool_no_joined, Pool_no_met, Pool_no_without, Pool_no_dealt, Pool_no___eq__, Pool_no___str__, Pool_no___repr__, L_fewest_1, ne, e, em, hc, l1, hlt]

theorem mstep_len (acc : List PRow) (p : PRow) : (mstep acc p).length ≤ acc.length + 1 := by
  unfold mstep
  split
  · split <;> simp
  · simp
theorem fold_len : ∀ (l acc : List PRow), (l.foldl mstep acc).length ≤ acc.length + l.length
  | [], acc => by simp
  | p :: l, acc => by
    have := fold_len l (mstep acc p)
    have := mstep_len acc p
    simp only [List.foldl_cons, List.length_cons]
    omega
theorem fewest_ok {ps : List PRow} (v : Val ps) (hl : ps.length < 900) (h : AH) : f_fewest [.tup (ps.map tupP)] h = .ok (.tup ((fw ps).map tupP)) (h.new (.lst ((fw ps).map tupP))) := by
  have hs : (sortP ps).length = ps.length := (sortP_perm ps).length_eq
  obtain ⟨s', h', e, x, y, rfl, rfl⟩ := forL_all (ok := fun _ => true) (g := gTp 2 (gsCons (gNm 2) (gsCons (gNm 3) gsNil))) (b := L_fewest_1)
    (fun i s h' => ∃ x y, s = [some (.tup (ps.map tupP)), some (.ref h.n), x, y] ∧ h' = h.new (.lst ((((sortP ps).take i).foldl mstep []).map tupP))) (fun _ _ _ _ => rfl) ((sortP ps).map tupP) 0
    [some (.tup (ps.map tupP)), some (.ref h.n), none, none] (h.new (.lst [])) ⟨none, none, rfl, rfl⟩ (fun j d s h' hd ⟨x, y, es, eh⟩ => by
      subst es eh
      rw [List.getElem?_map] at hd
      cases q : (sortP ps)[j]? with
      | none => rw [q] at hd; cases hd
      | some p =>
        rw [q] at hd
        cases hd
        have hj : j < (sortP ps).length := (List.getElem?_eq_some_iff.mp q).1
        have hk : (((sortP ps).take (0 + j)).foldl mstep []).length < 1000 := by
          have := fold_len ((sortP ps).take (0 + j)) []
          rw [List.length_take] at this
          simp only [List.length_nil] at this
          omega
        have st := fstep_ok (sc := some (.tup (ps.map tupP))) (h := h.new (.lst ((((sortP ps).take (0 + j)).foldl mstep []).map tupP))) (b := h.n) (p := p) (AH.new_same ..) hk
        refine ⟨[some (.tup (ps.map tupP)), some (.ref h.n), some (.int p.1), some (.int p.2)], _, _, _, rfl, .inl st, _, _, rfl, ?_⟩
        rw [AH.new_put, Nat.zero_add, List.take_add_one, q, List.foldl_append]
        rfl)
  have em : ((sortP ps).take (0 + ((sortP ps).map tupP).length)).foldl mstep [] = fw ps := by
    rw [Nat.zero_add, List.length_map, List.take_length]
    exact merge_eq v
  rw [em] at e
  simp (disch := omega) only [fnM, eVar, eC, eBin, eUn, aNil, aCons, eTup, eLst, eLstN, eFn, eIf, eFld, eCall, eMeth, eMake, insOf, tst, tstB, MP.tAnd, MP.tOr, MP.tNot, eAnd, eOr, eNot, eChain, truth, optR, Res.bind, Res.bindS, sNil, sSeq, sExp, sRet, sRetN, sIf, sAsg, sSet, sPar, MP.sFld, MP.sFldAug, sFor, nxO, gNm, gFld, gIx, setIx, setFld, gsNil, gsCons, gTp, gLs, MP.iRng1, MP.iRng2, iSeq, iLst, MP.iTup, seqL, seqM, seqT, seqX, eIsi, tyName, isi_ii, isi_ib, isi_bi, isi_bb, isi_ni, isi_si, isi_ss, isi_is, isi_tt, isi_ti, isi_li, pAdd, pSub, pMul_ok, pDiv_ok, pMod_ok, pNeg, pLt, pLe, pGt, pGe, pEq, pNe, pEqB, sEq, pIs, pIsNot, MP.isNon, pIx, fAbs, fMax2, fMin2, fInt, fLen, gSel, pick, AH.put_g, AH.put_n, AH.new_g, AH.new_n, AH.put_same, AH.new_same, AH.put_put, AH.new_put, List.length_cons, List.length_nil, List.map_cons, List.map_nil, List.cons_append, List.nil_append, List.append_nil, List.replicate, List.getElem?_cons_zero, List.getElem?_cons_succ, List.getElem?_nil, List.set_cons_zero, List.set_cons_succ, List.flatMap_cons, List.flatMap_nil, List.drop_zero, List.drop_succ_cons, List.drop_nil, List.take_succ_cons, List.take_zero, List.take_nil, List.contains_cons, List.contains_nil, Bool.or_false, Bool.or_true, Bool.true_or, Bool.false_or, Bool.and_true, Bool.and_false, Bool.not_true, Bool.not_false, beq_self_eq_true, Nat.reduceAdd, Nat.reduceSub, Nat.reduceLeDiff, Nat.reduceLT, Nat.reduceEqDiff, Nat.reduceBEq, Int.reduceToNat, ↓reduceIte, reduceIte, Bool.false_eq_true, ne_true_f, pow10_18, pow10_10, pow10_11, pow10_6, decide_eq_true_eq, and_self, and_true, true_and, Nat.zero_le, Option.map_some, Option.map_none, Option.bind_some, Int.reduceLT, Int.reduceLE, Int.reduceNeg, decide_true, decide_false, ixN_0, ixN_1, ixN_2, ixN_3, ixN_m1, atI_1, atI_2, atI_3, eq_self, Option.some.injEq, false_and, atI_0, Nat.zero_add, Nat.add_zero, sRaise, sRaise0, sTryO, noEx, fAny, fAll, blsL, compL, wipeD, CT.set, eComp, eCompN, lstOk, fSum, fTuple, fList, sAug, pAddI, pSubI, pIn, pNotIn, inB, MP.iZip, iEnumA, fSortP, fSortSet, eSl, partD, zipD_ints, pairsL_map, eBm, mAppend, List.any_cons, List.any_nil, List.all_cons, List.all_nil, id, List.length_append, List.zip_cons_cons, List.zip_nil_left, List.reverse_cons, List.reverse_nil, eqb_int, eqb_str, eqb_bl, kc0, kc1, kc2, kc3, kc4, kc5, kc6, kc7, kc8, kc9, kc10, kc11, kc12, kc13, kc14, kc15, kc16, kc17, kc18, kc19, kc20, Int.reduceBEq, Int.reduceMul, Int.reduceSub, Pool_get_kept, Pool_set_kept, Pool_put_0, Pool_no_stretches, Pool_no___len__, Pool_no_has, Pool_no_number_at, Pool_no_place_of, Pool_no_first_from, Pool_no_joined, Pool_no_met, Pool_no_without, Pool_no_dealt, Pool_no___eq__, Pool_no___str__, Pool_no___repr__, f_fewest, b_fewest, pairsL_map, e]
/-- a pool as it lies -/
def Pl (h : AH) (a : Nat) (m : List PRow) : Prop := h.g a = some (.ins 1 [("kept", .tup (m.map tupP))])
theorem init_ok {ps : List PRow} (g : Good ps) (hl : ps.length ≤ 20) (h : AH) : f_Pool_init [.ref h.n, .tup (ps.map tupP)] (h.new (.ins 1 [])) = .ok .non (((h.new (.ins 1 [])).new (.lst ((fw ps).map tupP))).put h.n (.ins 1 [("kept", .tup ((fw ps).map tupP))])) := by
  have lk := look_ok g hl
  have fe := fewest_ok g.val (by omega)
  have ne : (h.n = h.n + 1) = False := by simp
  simp (disch := omega) only [fnM, eVar, eC, eBin, eUn, aNil, aCons, eTup, eLst, eLstN, eFn, eIf, eFld, eCall, eMeth, eMake, insOf, tst, tstB, MP.tAnd, MP.tOr, MP.tNot, eAnd, eOr, eNot, eChain, truth, optR, Res.bind, Res.bindS, sNil, sSeq, sExp, sRet, sRetN, sIf, sAsg, sSet, sPar, MP.sFld, MP.sFldAug, sFor, nxO, gNm, gFld, gIx, setIx, setFld, gsNil, gsCons, gTp, gLs, MP.iRng1, MP.iRng2, iSeq, iLst, MP.iTup, seqL, seqM, seqT, seqX, eIsi, tyName, isi_ii, isi_ib, isi_bi, isi_bb, isi_ni, isi_si, isi_ss, isi_is, isi_tt, isi_ti, isi_li, pAdd, pSub, pMul_ok, pDiv_ok, pMod_ok, pNeg, pLt, pLe, pGt, pGe, pEq, pNe, pEqB, sEq, pIs, pIsNot, MP.isNon, pIx, fAbs, fMax2, fMin2, fInt, fLen, gSel, pick, AH.put_g, AH.put_n, AH.new_g, AH.new_n, AH.put_same, AH.new_same, AH.put_put, AH.new_put, List.length_cons, List.length_nil, List.map_cons, List.map_nil, List.cons_append, List.nil_append, List.append_nil, List.replicate, List.getElem?_cons_zero, List.getElem?_cons_succ, List.getElem?_nil, List.set_cons_zero, List.set_cons_succ, List.flatMap_cons, List.flatMap_nil, List.drop_zero, List.drop_succ_cons, List.drop_nil, List.take_succ_cons, List.take_zero, List.take_nil, List.contains_cons, List.contains_nil, Bool.or_false, Bool.or_true, Bool.true_or, Bool.false_or, Bool.and_true, Bool.and_false, Bool.not_true, Bool.not_false, beq_self_eq_true, Nat.reduceAdd, Nat.reduceSub, Nat.reduceLeDiff, Nat.reduceLT, Nat.reduceEqDiff, Nat.reduceBEq, Int.reduceToNat, ↓reduceIte, reduceIte, Bool.false_eq_true, ne_true_f, pow10_18, pow10_10, pow10_11, pow10_6, decide_eq_true_eq, and_self, and_true, true_and, Nat.zero_le, Option.map_some, Option.map_none, Option.bind_some, Int.reduceLT, Int.reduceLE, Int.reduceNeg, decide_true, decide_false, ixN_0, ixN_1, ixN_2, ixN_3, ixN_m1, atI_1, atI_2, atI_3, eq_self, Option.some.injEq, false_and, atI_0, Nat.zero_add, Nat.add_zero, sRaise, sRaise0, sTryO, noEx, fAny, fAll, blsL, compL, wipeD, CT.set, eComp, eCompN, lstOk, fSum, fTuple, fList, sAug, pAddI, pSubI, pIn, pNotIn, inB, MP.iZip, iEnumA, fSortP, fSortSet, eSl, partD, zipD_ints, pairsL_map, eBm, mAppend, List.any_cons, List.any_nil, List.all_cons, List.all_nil, id, List.length_append, List.zip_cons_cons, List.zip_nil_left, List.reverse_cons, List.reverse_nil, eqb_int, eqb_str, eqb_bl, kc0, kc1, kc2, kc3, kc4, kc5, kc6, kc7, kc8, kc9, kc10, kc11, kc12, kc13, kc14, kc15, kc16, kc17, kc18, kc19, kc20, Int.reduceBEq, Int.reduceMul, Int.reduceSub, Pool_get_kept, Pool_set_kept, Pool_put_0, Pool_no_stretches, Pool_no___len__, Pool_no_has, Pool_no_number_at, Pool_no_place_of, Pool_no_first_from, Pool_no_joined, Pool_no_met, Pool_no_without, Pool_no_dealt, Pool_no___eq__, Pool_no___str__, Pool_no___repr__, f_Pool_init, b_Pool_init, lk, fe, ne]

/-- a list of rows at f -/
def Rws (h : AH) (f : Nat) (acc : List PRow) : Prop := h.g f = some (.lst (acc.map tupP))
theorem Rws.keep {h h' : AH} {b f : Nat} {acc : List PRow} (r : Rws h f acc) (d : But b h h') (hf : f ≠ b) : Rws h' f acc := (d.g f hf).trans r
theorem good_snoc {acc : List PRow} {p : PRow} (g : Good acc) (hp : 0 ≤ p.1 ∧ p.1 ≤ p.2 ∧ p.2 ≤ 999999) : Good (acc ++ [p]) := fun q hq => by
  rcases List.mem_append.mp hq with hq | hq
  · exact g q hq
  · rw [List.mem_singleton.mp hq]
    exact hp
structure St1 (b f : Nat) (m wd lg K : Int) (h0 : AH) (i : Int) (s : Sl) (h : AH) : Prop where
  e : ∃ x5 x6, s = [some (.ref b), some (.int m), some (.int wd), some (.int lg), some (.ref f), x5, x6]
  r : ∃ acc, Rws h f acc ∧ Good acc ∧ (acc.length : Int) ≤ i
  B : Bag h b (K + 4 * i)
  n : h.n = h0.n
  g : ∀ k, k ≠ b → k ≠ f → h.g k = h0.g k
theorem st1_ok {b f : Nat} {m wd lg K i : Int} {h0 : AH} {s : Sl} {h : AH} (hf : f ≠ b) (w0 : 0 < wd) (w1 : wd ≤ 1000000) (l0 : 0 < lg) (l1 : lg ≤ 1000000) (i0 : 0 ≤ i) (i1 : i < 1000) (K1 : K < 10000000) (S : St1 b f m wd lg K h0 i s h) :
    ∃ s1 h1 s2 h2, gNm 5 (.int i) s h = some (s1, h1) ∧ (L_law_stretches_1 s1 h1 = .nx s2 h2 ∨ L_law_stretches_1 s1 h1 = .ct s2 h2) ∧ St1 b f m wd lg K h0 (i + 1) s2 h2 := by
  obtain ⟨⟨x5, x6, rfl⟩, ⟨acc, R, G, al⟩, B, hn, hg⟩ := S
  obtain ⟨r1, k1, t1, u1, v1, B1, D1⟩ := take_ok B (n := wd) (by omega) w0 (by omega)
  have R1 := R.keep D1 hf
  have ne := fun (h : AH) (e : Rws h f acc) => eqb_nilL e
  have hlt : (acc.map tupP).length < 100000 := by rw [List.length_map]; omega
  have ap : ∀ a c : Int, acc.map tupP ++ [.tup [.int a, .int c]] = (acc ++ [(a, c)]).map tupP := fun a c => by rw [List.map_append]; rfl
  -- behind the begin: the end is drawn, the row put behind
  have fin : ∀ (bg : Int) (k2 k3 : AH) (c : Int), 0 ≤ bg → bg ≤ 999999 → But b h k2 → Bag k2 b (K + 4 * i + 3) → (∀ r3 k3, f_take [.ref b, .int lg] k2 = .ok (.int r3) k3 → 0 ≤ r3 → Rws k3 f acc → L_law_stretches_1 [some (.ref b), some (.int m), some (.int wd), some (.int lg), some (.ref f), some (.int i), x6] h =
      .nx [some (.ref b), some (.int m), some (.int wd), some (.int lg), some (.ref f), some (.int i), some (.int bg)] (k3.put f (.lst ((acc ++ [(bg, if bg + r3 < 999999 then bg + r3 else 999999)]).map tupP)))) →
      ∃ s1 h1 s2 h2, gNm 5 (.int i) [some (.ref b), some (.int m), some (.int wd), some (.int lg), some (.ref f), x5, x6] h = some (s1, h1) ∧ (L_law_stretches_1 s1 h1 = .nx s2 h2 ∨ L_law_stretches_1 s1 h1 = .ct s2 h2) ∧ St1 b f m wd lg K h0 (i + 1) s2 h2 := by
    intro bg k2 _ _ b0 b1 D2 B2 run
    obtain ⟨r3, k3, t3, u3, v3, B3, D3⟩ := take_ok B2 (n := lg) (by omega) l0 (by omega)
    have R3 : Rws k3 f acc := (R.keep D2 hf).keep D3 hf
    have D4 := D2.trans D3
    refine ⟨_, _, _, _, rfl, .inl (run r3 k3 t3 u3 R3), ⟨⟨_, _, rfl⟩, ⟨_, AH.put_same .., good_snoc G ⟨b0, by dsimp only; split <;> omega, by dsimp only; split <;> omega⟩, by rw [List.length_append, List.length_singleton]; omega⟩, (B3.keep (AH.put_ne hf.symm)).mono (by omega), D4.n.trans hn, fun k hk hk2 => (AH.put_ne hk2).trans ((D4.g k hk).trans (hg k hk hk2))⟩⟩
  rcases List.eq_nil_or_concat acc with rfl | ⟨a0, q, rfl⟩
  · refine fin r1 k1 k1 0 u1 (by omega) D1 (B1.mono (by omega)) fun r3 k3 t3 u3 R3 => ?_
    have e1 := ne k1 R1
    have R3' : k3.g f = some (.lst []) := R3
    have R1' : k1.g f = some (.lst []) := R1
    simp (disch := omega) only [fnM, eVar, eC, eBin, eUn, aNil, aCons, eTup, eLst, eLstN, eFn, eIf, eFld, eCall, eMeth, eMake, insOf, tst, tstB, MP.tAnd, MP.tOr, MP.tNot, eAnd, eOr, eNot, eChain, truth, optR, Res.bind, Res.bindS, sNil, sSeq, sExp, sRet, sRetN, sIf, sAsg, sSet, sPar, MP.sFld, MP.sFldAug, sFor, nxO, gNm, gFld, gIx, setIx, setFld, gsNil, gsCons, gTp, gLs, MP.iRng1, MP.iRng2, iSeq, iLst, MP.iTup, seqL, seqM, seqT, seqX, eIsi, tyName, isi_ii, isi_ib, isi_bi, isi_bb, isi_ni, isi_si, isi_ss, isi_is, isi_tt, isi_ti, isi_li, pAdd, pSub, pMul_ok, pDiv_ok, pMod_ok, pNeg, pLt, pLe, pGt, pGe, pEq, pNe, sEq, pIs, pIsNot, MP.isNon, pIx, fAbs, fMax2, fMin2, fInt, fLen, gSel, pick, AH.put_g, AH.put_n, AH.new_g, AH.new_n, AH.put_same, AH.new_same, AH.put_put, AH.new_put, List.length_cons, List.length_nil, List.map_cons, List.map_nil, List.cons_append, List.nil_append, List.append_nil, List.replicate, List.getElem?_cons_zero, List.getElem?_cons_succ, List.getElem?_nil, List.set_cons_zero, List.set_cons_succ, List.flatMap_cons, List.flatMap_nil, List.drop_zero, List.drop_succ_cons, List.drop_nil, List.take_succ_cons, List.take_zero, List.take_nil, List.contains_cons, List.contains_nil, Bool.or_false, Bool.or_true, Bool.true_or, Bool.false_or, Bool.and_true, Bool.and_false, Bool.not_true, Bool.not_false, beq_self_eq_true, Nat.reduceAdd, Nat.reduceSub, Nat.reduceLeDiff, Nat.reduceLT, Nat.reduceEqDiff, Nat.reduceBEq, Int.reduceToNat, ↓reduceIte, reduceIte, Bool.false_eq_true, ne_true_f, pow10_18, pow10_10, pow10_11, pow10_6, decide_eq_true_eq, and_self, and_true, true_and, Nat.zero_le, Option.map_some, Option.map_none, Option.bind_some, Int.reduceLT, Int.reduceLE, Int.reduceNeg, decide_true, decide_false, ixN_0, ixN_1, ixN_2, ixN_3, ixN_m1, atI_1, atI_2, atI_3, eq_self, Option.some.injEq, false_and, atI_0, Nat.zero_add, Nat.add_zero, sRaise, sRaise0, sTryO, noEx, fAny, fAll, blsL, compL, wipeD, CT.set, eComp, eCompN, lstOk, fSum, fTuple, fList, sAug, pAddI, pSubI, pIn, pNotIn, inB, MP.iZip, iEnumA, fSortP, fSortSet, eSl, partD, zipD_ints, pairsL_map, eBm, mAppend, List.any_cons, List.any_nil, List.all_cons, List.all_nil, id, List.length_append, List.zip_cons_cons, List.zip_nil_left, List.reverse_cons, List.reverse_nil, eqb_int, eqb_str, eqb_bl, kc0, kc1, kc2, kc3, kc4, kc5, kc6, kc7, kc8, kc9, kc10, kc11, kc12, kc13, kc14, kc15, kc16, kc17, kc18, kc19, kc20, Int.reduceBEq, Int.reduceMul, Int.reduceSub, Pool_get_kept, Pool_set_kept, Pool_put_0, Pool_no_stretches, Pool_no___len__, Pool_no_has, Pool_no_number_at, Pool_no_place_of, Pool_no_first_from, Pool_no_joined, Pool_no_met, Pool_no_without, Pool_no_dealt, Pool_no___eq__, Pool_no___str__, Pool_no___repr__, L_law_stretches_1, e_take, t1, e1, t3, R3', R1', List.isEmpty_nil, tupP]
  · rw [List.concat_eq_append] at *
    have e1 := ne k1 R1
    have em : (a0 ++ [q]).isEmpty = false := by simp
    have l1 : atI ((a0 ++ [q]).map tupP) (-1) = some (.tup [.int q.1, .int q.2]) := at_last tupP a0 q
    have gq := G q (by simp)
    obtain ⟨r2, k2, t2, u2, v2, B2, D2⟩ := take_ok B1 (n := 5) (by omega) (by decide) (by decide)
    by_cases hr : r2 = 0
    · subst hr
      obtain ⟨r4, k4, t4, u4, v4, B4, D4⟩ := take_ok B2 (n := 3) (by omega) (by decide) (by decide)
      have R2 := (R1.keep D2 hf)
      unfold Rws at R2
      refine fin (if q.2 + r4 < 999999 then q.2 + r4 else 999999) k4 k4 0 (by split <;> omega) (by split <;> omega) ((D1.trans D2).trans D4) (B4.mono (by omega)) fun r3 k3 t3 u3 R3 => ?_
      unfold Rws at R3
      have R4 : k4.g f = some (.lst ((a0 ++ [q]).map tupP)) := ((R1.keep D2 hf).keep D4 hf)
      rw [← ap]
      simp (disch := omega) only [fnM, eVar, eC, eBin, eUn, aNil, aCons, eTup, eLst, eLstN, eFn, eIf, eFld, eCall, eMeth, eMake, insOf, tst, tstB, MP.tAnd, MP.tOr, MP.tNot, eAnd, eOr, eNot, eChain, truth, optR, Res.bind, Res.bindS, sNil, sSeq, sExp, sRet, sRetN, sIf, sAsg, sSet, sPar, MP.sFld, MP.sFldAug, sFor, nxO, gNm, gFld, gIx, setIx, setFld, gsNil, gsCons, gTp, gLs, MP.iRng1, MP.iRng2, iSeq, iLst, MP.iTup, seqL, seqM, seqT, seqX, eIsi, tyName, isi_ii, isi_ib, isi_bi, isi_bb, isi_ni, isi_si, isi_ss, isi_is, isi_tt, isi_ti, isi_li, pAdd, pSub, pMul_ok, pDiv_ok, pMod_ok, pNeg, pLt, pLe, pGt, pGe, pEq, pNe, sEq, pIs, pIsNot, MP.isNon, pIx, fAbs, fMax2, fMin2, fInt, fLen, gSel, pick, AH.put_g, AH.put_n, AH.new_g, AH.new_n, AH.put_same, AH.new_same, AH.put_put, AH.new_put, List.length_cons, List.length_nil, List.map_cons, List.map_nil, List.cons_append, List.nil_append, List.append_nil, List.replicate, List.getElem?_cons_zero, List.getElem?_cons_succ, List.getElem?_nil, List.set_cons_zero, List.set_cons_succ, List.flatMap_cons, List.flatMap_nil, List.drop_zero, List.drop_succ_cons, List.drop_nil, List.take_succ_cons, List.take_zero, List.take_nil, List.contains_cons, List.contains_nil, Bool.or_false, Bool.or_true, Bool.true_or, Bool.false_or, Bool.and_true, Bool.and_false, Bool.not_true, Bool.not_false, beq_self_eq_true, Nat.reduceAdd, Nat.reduceSub, Nat.reduceLeDiff, Nat.reduceLT, Nat.reduceEqDiff, Nat.reduceBEq, Int.reduceToNat, ↓reduceIte, reduceIte, Bool.false_eq_true, ne_true_f, pow10_18, pow10_10, pow10_11, pow10_6, decide_eq_true_eq, and_self, and_true, true_and, Nat.zero_le, Option.map_some, Option.map_none, Option.bind_some, Int.reduceLT, Int.reduceLE, Int.reduceNeg, decide_true, decide_false, ixN_0, ixN_1, ixN_2, ixN_3, ixN_m1, atI_1, atI_2, atI_3, eq_self, Option.some.injEq, false_and, atI_0, Nat.zero_add, Nat.add_zero, sRaise, sRaise0, sTryO, noEx, fAny, fAll, blsL, compL, wipeD, CT.set, eComp, eCompN, lstOk, fSum, fTuple, fList, sAug, pAddI, pSubI, pIn, pNotIn, inB, MP.iZip, iEnumA, fSortP, fSortSet, eSl, partD, zipD_ints, pairsL_map, eBm, mAppend, List.any_cons, List.any_nil, List.all_cons, List.all_nil, id, List.length_append, List.zip_cons_cons, List.zip_nil_left, List.reverse_cons, List.reverse_nil, eqb_int, eqb_str, eqb_bl, kc0, kc1, kc2, kc3, kc4, kc5, kc6, kc7, kc8, kc9, kc10, kc11, kc12, kc13, kc14, kc15, kc16, kc17, kc18, kc19, kc20, Int.reduceBEq, Int.reduceMul, Int.reduceSub, Pool_get_kept, Pool_set_kept, Pool_put_0, Pool_no_stretches, Pool_no___len__, Pool_no_has, Pool_no_number_at, Pool_no_place_of, Pool_no_first_from, Pool_no_joined, Pool_no_met, Pool_no_without, Pool_no_dealt, Pool_no___eq__, Pool_no___str__, Pool_no___repr__, L_law_stretches_1, e_take, t1, e1, em, t2, R2, R4, l1, t4, t3, R3, hlt]
    · have hr2 : (r2 == 0) = false := by simp [hr]
      refine fin r1 k2 k2 0 u1 (by omega) (D1.trans D2) (B2.mono (by omega)) fun r3 k3 t3 u3 R3 => ?_
      unfold Rws at R3
      have R4 : k2.g f = some (.lst ((a0 ++ [q]).map tupP)) := R1.keep D2 hf
      rw [← ap]
      simp (disch := omega) only [fnM, eVar, eC, eBin, eUn, aNil, aCons, eTup, eLst, eLstN, eFn, eIf, eFld, eCall, eMeth, eMake, insOf, tst, tstB, MP.tAnd, MP.tOr, MP.tNot, eAnd, eOr, eNot, eChain, truth, optR, Res.bind, Res.bindS, sNil, sSeq, sExp, sRet, sRetN, sIf, sAsg, sSet, sPar, MP.sFld, MP.sFldAug, sFor, nxO, gNm, gFld, gIx, setIx, setFld, gsNil, gsCons, gTp, gLs, MP.iRng1, MP.iRng2, iSeq, iLst, MP.iTup, seqL, seqM, seqT, seqX, eIsi, tyName, isi_ii, isi_ib, isi_bi, isi_bb, isi_ni, isi_si, isi_ss, isi_is, isi_tt, isi_ti, isi_li, pAdd, pSub, pMul_ok, pDiv_ok, pMod_ok, pNeg, pLt, pLe, pGt, pGe, pEq, pNe, sEq, pIs, pIsNot, MP.isNon, pIx, fAbs, fMax2, fMin2, fInt, fLen, gSel, pick, AH.put_g, AH.put_n, AH.new_g, AH.new_n, AH.put_same, AH.new_same, AH.put_put, AH.new_put, List.length_cons, List.length_nil, List.map_cons, List.map_nil, List.cons_append, List.nil_append, List.append_nil, List.replicate, List.getElem?_cons_zero, List.getElem?_cons_succ, List.getElem?_nil, List.set_cons_zero, List.set_cons_succ, List.flatMap_cons, List.flatMap_nil, List.drop_zero, List.drop_succ_cons, List.drop_nil, List.take_succ_cons, List.take_zero, List.take_nil, List.contains_cons, List.contains_nil, Bool.or_false, Bool.or_true, Bool.true_or, Bool.false_or, Bool.and_true, Bool.and_false, Bool.not_true, Bool.not_false, beq_self_eq_true, Nat.reduceAdd, Nat.reduceSub, Nat.reduceLeDiff, Nat.reduceLT, Nat.reduceEqDiff, Nat.reduceBEq, Int.reduceToNat, ↓reduceIte, reduceIte, Bool.false_eq_true, ne_true_f, pow10_18, pow10_10, pow10_11, pow10_6, decide_eq_true_eq, and_self, and_true, true_and, Nat.zero_le, Option.map_some, Option.map_none, Option.bind_some, Int.reduceLT, Int.reduceLE, Int.reduceNeg, decide_true, decide_false, ixN_0, ixN_1, ixN_2, ixN_3, ixN_m1, atI_1, atI_2, atI_3, eq_self, Option.some.injEq, false_and, atI_0, Nat.zero_add, Nat.add_zero, sRaise, sRaise0, sTryO, noEx, fAny, fAll, blsL, compL, wipeD, CT.set, eComp, eCompN, lstOk, fSum, fTuple, fList, sAug, pAddI, pSubI, pIn, pNotIn, inB, MP.iZip, iEnumA, fSortP, fSortSet, eSl, partD, zipD_ints, pairsL_map, eBm, mAppend, List.any_cons, List.any_nil, List.all_cons, List.all_nil, id, List.length_append, List.zip_cons_cons, List.zip_nil_left, List.reverse_cons, List.reverse_nil, eqb_int, eqb_str, eqb_bl, kc0, kc1, kc2, kc3, kc4, kc5, kc6, kc7, kc8, kc9, kc10, kc11, kc12, kc13, kc14, kc15, kc16, kc17, kc18, kc19, kc20, Int.reduceBEq, Int.reduceMul, Int.reduceSub, Pool_get_kept, Pool_set_kept, Pool_put_0, Pool_no_stretches, Pool_no___len__, Pool_no_has, Pool_no_number_at, Pool_no_place_of, Pool_no_first_from, Pool_no_joined, Pool_no_met, Pool_no_without, Pool_no_dealt, Pool_no___eq__, Pool_no___str__, Pool_no___repr__, L_law_stretches_1, e_take, t1, e1, em, t2, hr2, R4, t3, R3, hlt]

/-- what stood stands, but for the bag at b -/
structure Grw (b : Nat) (h h' : AH) : Prop where
  n : h.n ≤ h'.n
  g : ∀ k, k < h.n → k ≠ b → h'.g k = h.g k
theorem Grw.refl {b : Nat} {h : AH} : Grw b h h := ⟨Nat.le_refl _, fun _ _ _ => rfl⟩
theorem Grw.trans {b : Nat} {h h1 h2 : AH} (a : Grw b h h1) (c : Grw b h1 h2) : Grw b h h2 := ⟨Nat.le_trans a.n c.n, fun k hk e => (c.g k (Nat.lt_of_lt_of_le hk a.n) e).trans (a.g k hk e)⟩
theorem Grw.but {b : Nat} {h h' : AH} (d : But b h h') : Grw b h h' := ⟨Nat.le_of_eq d.n.symm, fun k _ e => d.g k e⟩
theorem Grw.new {b : Nat} {h : AH} {o : AO} : Grw b h (h.new o) := ⟨Nat.le_succ _, fun k hk _ => AH.new_ne (Nat.ne_of_lt hk)⟩
theorem menu2i (a b : Int) {r : Int} (h0 : 0 ≤ r) (h1 : r < 2) : ∃ x : Int, atI [D.int a, .int b] r = some (.int x) ∧ (x = a ∨ x = b) := by
  obtain ⟨x, e, z⟩ := menu2 (D.int a) (.int b) h0 h1
  rcases z with rfl | rfl
  · exact ⟨_, e, by simp⟩
  · exact ⟨_, e, by simp⟩
theorem stretches_ok {b : Nat} {m K : Int} {h : AH} (B : Bag h b K) (hb : b < h.n) (K1 : K < 1000000) (m0 : 3 ≤ m) (m1 : m ≤ 900) :
    ∃ ps h', f_law_stretches [.ref b, .int m] h = .ok (.tup (ps.map tupP)) h' ∧ Good ps ∧ (ps.length : Int) ≤ m ∧ Bag h' b (K + 4000) ∧ Grw b h h' := by
  obtain ⟨r1, k1, t1, u1, v1, B1, D1⟩ := take_ok B (n := 4) (by omega) (by decide) (by decide)
  obtain ⟨wd, e1, z1⟩ := menu4i 12 60 400 1000000 u1 v1
  obtain ⟨r2, k2, t2, u2, v2, B2, D2⟩ := take_ok B1 (n := 4) (by omega) (by decide) (by decide)
  obtain ⟨lg, e2, z2⟩ := menu4i 1 2 9 200000 u2 v2
  have n2 : k2.n = h.n := (D1.trans D2).n
  have hf : k2.n ≠ b := by omega
  have B2' : Bag (k2.new (.lst [])) b (K + 2) := (B2.keep (AH.new_ne (by omega))).mono (by omega)
  obtain ⟨r3, k3, t3, u3, v3, B3, D3⟩ := take_ok B2' (n := 2) (by omega) (by decide) (by decide)
  obtain ⟨ct, e3, z3⟩ := menu2i 4 (m + 1) u3 v3
  obtain ⟨r4, k4, t4, u4, v4, B4, D4⟩ := take_ok B3 (n := ct) (by omega) (by omega) (by omega)
  have D34 := D3.trans D4
  have S0 : St1 b k2.n m wd lg (K + 10) k4 0 [some (.ref b), some (.int m), some (.int wd), some (.int lg), some (.ref k2.n), none, none] k4 :=
    ⟨⟨_, _, rfl⟩, ⟨[], (D34.g _ hf).trans (AH.new_same ..), fun p hp => (by cases hp), Int.le_refl _⟩, B4.mono (by omega), rfl, fun _ _ _ => rfl⟩
  obtain ⟨s', h', e, _, ⟨⟨x5, x6, rfl⟩, ⟨acc, R, G, al⟩, B5, hn, hg⟩⟩ := forR (g := gNm 5) (b := L_law_stretches_1) (fun i s h => i ≤ r4 ∧ St1 b k2.n m wd lg (K + 10) k4 i s h) (lo := 0) (hi := r4) u4 ⟨u4, S0⟩ (fun i s h i0 i1 L => by
    obtain ⟨s1, h1, s2, h2, a1, a2, L2⟩ := st1_ok hf (by omega) (by omega) (by omega) (by omega) i0 (by omega) (by omega) L.2
    exact ⟨s1, h1, s2, h2, a1, a2, by omega, L2⟩)
  refine ⟨acc, h', ?_, G, by omega, B5.mono (by omega), ?_⟩
  · have hg := rngG (n := r4) u4 (by omega)
    unfold Rws at R
    simp (disch := omega) only [fnM, eVar, eC, eBin, eUn, aNil, aCons, eTup, eLst, eLstN, eFn, eIf, eFld, eCall, eMeth, eMake, insOf, tst, tstB, MP.tAnd, MP.tOr, MP.tNot, eAnd, eOr, eNot, eChain, truth, optR, Res.bind, Res.bindS, sNil, sSeq, sExp, sRet, sRetN, sIf, sAsg, sSet, sPar, MP.sFld, MP.sFldAug, sFor, nxO, gNm, gFld, gIx, setIx, setFld, gsNil, gsCons, gTp, gLs, MP.iRng1, MP.iRng2, iSeq, iLst, MP.iTup, seqL, seqM, seqT, seqX, eIsi, tyName, isi_ii, isi_ib, isi_bi, isi_bb, isi_ni, isi_si, isi_ss, isi_is, isi_tt, isi_ti, isi_li, pAdd, pSub, pMul_ok, pDiv_ok, pMod_ok, pNeg, pLt, pLe, pGt, pGe, pEq, pNe, pEqB, sEq, pIs, pIsNot, MP.isNon, pIx, fAbs, fMax2, fMin2, fInt, fLen, gSel, pick, AH.put_g, AH.put_n, AH.new_g, AH.new_n, AH.put_same, AH.new_same, AH.put_put, AH.new_put, List.length_cons, List.length_nil, List.map_cons, List.map_nil, List.cons_append, List.nil_append, List.append_nil, List.replicate, List.getElem?_cons_zero, List.getElem?_cons_succ, List.getElem?_nil, List.set_cons_zero, List.set_cons_succ, List.flatMap_cons, List.flatMap_nil, List.drop_zero, List.drop_succ_cons, List.drop_nil, List.take_succ_cons, List.take_zero, List.take_nil, List.contains_cons, List.contains_nil, Bool.or_false, Bool.or_true, Bool.true_or, Bool.false_or, Bool.and_true, Bool.and_false, Bool.not_true, Bool.not_false, beq_self_eq_true, Nat.reduceAdd, Nat.reduceSub, Nat.reduceLeDiff, Nat.reduceLT, Nat.reduceEqDiff, Nat.reduceBEq, Int.reduceToNat, ↓reduceIte, reduceIte, Bool.false_eq_true, ne_true_f, pow10_18, pow10_10, pow10_11, pow10_6, decide_eq_true_eq, and_self, and_true, true_and, Nat.zero_le, Option.map_some, Option.map_none, Option.bind_some, Int.reduceLT, Int.reduceLE, Int.reduceNeg, decide_true, decide_false, ixN_0, ixN_1, ixN_2, ixN_3, ixN_m1, atI_1, atI_2, atI_3, eq_self, Option.some.injEq, false_and, atI_0, Nat.zero_add, Nat.add_zero, sRaise, sRaise0, sTryO, noEx, fAny, fAll, blsL, compL, wipeD, CT.set, eComp, eCompN, lstOk, fSum, fTuple, fList, sAug, pAddI, pSubI, pIn, pNotIn, inB, MP.iZip, iEnumA, fSortP, fSortSet, eSl, partD, zipD_ints, pairsL_map, eBm, mAppend, List.any_cons, List.any_nil, List.all_cons, List.all_nil, id, List.length_append, List.zip_cons_cons, List.zip_nil_left, List.reverse_cons, List.reverse_nil, eqb_int, eqb_str, eqb_bl, kc0, kc1, kc2, kc3, kc4, kc5, kc6, kc7, kc8, kc9, kc10, kc11, kc12, kc13, kc14, kc15, kc16, kc17, kc18, kc19, kc20, Int.reduceBEq, Int.reduceMul, Int.reduceSub, Pool_get_kept, Pool_set_kept, Pool_put_0, Pool_no_stretches, Pool_no___len__, Pool_no_has, Pool_no_number_at, Pool_no_place_of, Pool_no_first_from, Pool_no_joined, Pool_no_met, Pool_no_without, Pool_no_dealt, Pool_no___eq__, Pool_no___str__, Pool_no___repr__, f_law_stretches, b_law_stretches, e_take, t1, e1, t2, e2, t3, e3, t4, hg, e, R]
  · refine ⟨by rw [hn, D34.n, AH.new_n]; omega, fun k hk hkb => ?_⟩
    have hkf : k ≠ k2.n := by omega
    rw [hg k hkb hkf, D34.g k hkb, AH.new_ne hkf, (D1.trans D2).g k hkb]
/-! the first free number -/
def fstF : Nat → Int → Int → List Int → Option Int
  | 0, _, _, _ => none
  | k + 1, f, e, bs => if f ≤ e then (if f ∈ bs then fstF k (f + 1) e bs else some f) else none
def fst1 (f e : Int) (bs : List Int) : Option Int := fstF (bs.length + 1) f e bs
theorem pigeon : ∀ (k : Nat) (n : Int) (bs : List Int), (∀ y, n ≤ y → y < n + k → y ∈ bs) → k ≤ bs.length
  | 0, _, _, _ => Nat.zero_le _
  | k + 1, n, bs, h => by
    have hm : n + k ∈ bs := h _ (by omega) (by omega)
    have ih := pigeon k n (bs.erase (n + k)) fun y h1 h2 => (List.mem_erase_of_ne (by omega)).mpr (h y h1 (by omega))
    rw [List.length_erase_of_mem hm] at ih
    have : 0 < bs.length := List.length_pos_of_mem hm
    omega
theorem rng_cons {lo hi : Int} (h : lo < hi) : rng lo hi = .int lo :: rng (lo + 1) hi := by
  unfold rng
  have e : (hi - lo).toNat = (hi - (lo + 1)).toNat + 1 := by omega
  rw [e, List.range_succ_eq_map, List.map_cons, List.map_map]
  congr 1
  · simp
  · refine List.map_congr_left fun k _ => ?_
    simp only [Function.comp]
    congr 1
    omega
theorem rng_nil {lo hi : Int} (h : hi ≤ lo) : rng lo hi = [] := by
  unfold rng
  have e : (hi - lo).toNat = 0 := by omega
  rw [e]
  rfl
def intsR (lo hi : Int) : List Int := (List.range (hi - lo).toNat).map fun k => lo + (k : Nat)
theorem rng_ints (lo hi : Int) : rng lo hi = (intsR lo hi).map .int := by
  unfold rng intsR
  rw [List.map_map]
  rfl
theorem intsR_cons {lo hi : Int} (h : lo < hi) : intsR lo hi = lo :: intsR (lo + 1) hi := by
  unfold intsR
  have e : (hi - lo).toNat = (hi - (lo + 1)).toNat + 1 := by omega
  rw [e, List.range_succ_eq_map, List.map_cons, List.map_map]
  congr 1
  · simp
  · refine List.map_congr_left fun k _ => ?_
    simp only [Function.comp]
    omega
theorem intsR_nil {lo hi : Int} (h : hi ≤ lo) : intsR lo hi = [] := by
  unfold intsR
  have e : (hi - lo).toNat = 0 := by omega
  rw [e]
  rfl
theorem fstF_head (bs : List Int) : ∀ (k : Nat) (f e : Int), fstF k f e bs = ((intsR f ((if f + k - 1 < e then f + k - 1 else e) + 1)).filter fun x => decide (x ∉ bs)).head?
  | 0, f, e => by
    rw [intsR_nil (by split <;> omega)]
    rfl
  | k + 1, f, e => by
    unfold fstF
    by_cases h : f ≤ e
    · rw [if_pos h, intsR_cons (by split <;> omega)]
      have eq : (if f + ((k + 1 : Nat) : Int) - 1 < e then f + ((k + 1 : Nat) : Int) - 1 else e) = (if f + 1 + (k : Nat) - 1 < e then f + 1 + (k : Nat) - 1 else e) := by
        split <;> split <;> omega
      rw [eq]
      by_cases hb : f ∈ bs
      · rw [if_pos hb, fstF_head bs k (f + 1) e, List.filter_cons_of_neg (by simp [hb])]
      · rw [if_neg hb, List.filter_cons_of_pos (by simp [hb])]
        rfl
    · rw [if_neg h, intsR_nil (by split <;> omega)]
      rfl
/-- over all rows: from lo on, none of bs -/
def firstR (bs : List Int) (lo : Int) : List PRow → Option Int
  | [] => none
  | p :: ps => match fst1 (if lo < p.1 then p.1 else lo) p.2 bs with
    | some x => some x
    | none => firstR bs lo ps
theorem fstF_le {bs : List Int} : ∀ {k : Nat} {f e x : Int}, fstF k f e bs = some x → f ≤ x ∧ x ≤ e
  | 0, _, _, _, h => by cases h
  | k + 1, f, e, x, h => by
    unfold fstF at h
    split at h
    · split at h
      · have := fstF_le h
        omega
      · cases h
        omega
    · cases h
theorem firstR_le {bs : List Int} {lo x : Int} : ∀ {ps : List PRow}, Good ps → firstR bs lo ps = some x → 0 ≤ x ∧ x ≤ 999999
  | [], _, h => by cases h
  | p :: ps, g, h => by
    unfold firstR at h
    have gp := g p List.mem_cons_self
    split at h
    · rename_i y hy
      cases h
      have := fstF_le hy
      split at this <;> omega
    · exact firstR_le (fun q hq => g q (List.mem_cons_of_mem _ hq)) h
theorem eqb_nilI {h : AH} (ns : List Int) : pEqB h (.lst (ns.map .int)) (.lst []) = some ns.isEmpty := by
  have p1 : ∀ ns : List Int, pdL (ns.map .int) = some (ns.map .int) := fun ns => by
    induction ns with
    | nil => rfl
    | cons n ns ih =>
      simp only [List.map_cons, pdL, ih]
      rfl
  have p2 : ∀ ns : List Int, PyData.canLayAll0 (ns.map .int) = true := fun ns => by
    induction ns with
    | nil => simp [PyData.canLayAll0]
    | cons n ns ih => simp [PyData.canLayAll0, PyData.canLay0, ih]
  have p3 : ∀ ns : List Int, PyData.depthAll (ns.map .int) = 0 := fun ns => by
    induction ns with
    | nil => simp [PyData.depthAll]
    | cons n ns ih => simp [PyData.depthAll, PyData.depth, ih]
  have p4 : ∀ ns : List Int, SeqAt.shaped (.list (ns.map .int)) = true := fun ns => by
    simp only [SeqAt.shaped, PyData.canLay0, p2, PyData.depth, p3, Bool.true_and]
    decide
  have h1 : pd h (.lst (ns.map .int)) = some (.list (ns.map .int)) := by simp only [pd, pdI, p1]
  have h2 : pd h (.lst []) = some (.list []) := rfl
  have h4 : sEq (.lst (ns.map .int)) (.lst []) = none := rfl
  unfold pEqB
  rw [h4]
  simp only [h1, h2]
  rw [if_pos ⟨p4 ns, p4 []⟩]
  cases ns with
  | nil => simp [PyData.eqv, PyData.eqvAll]
  | cons p ps => simp [PyData.eqv, PyData.eqvAll]
/-- a number, or None -/
def optD : Option Int → D
  | none => .non
  | some x => .int x
theorem intsR_len (lo hi : Int) : (intsR lo hi).length = (hi - lo).toNat := by simp [intsR]
theorem lawfirst_step {rd : Option D} {lo : Int} {bs : List Int} {p : PRow} {x5 x6 x7 : Option D} {h : AH} (hb : bs.length ≤ 1000) (gp : 0 ≤ p.1 ∧ p.1 ≤ p.2 ∧ p.2 ≤ 999999) (l0 : -100000000000000 ≤ lo) (l1 : lo ≤ 100000000000000) :
    ∃ y5 y6, L_law_first_3 [rd, some (.int lo), some (.tup (bs.map .int)), some (.int p.1), some (.int p.2), x5, x6, x7] h =
      match fst1 (if lo < p.1 then p.1 else lo) p.2 bs with
      | some x => .rt (.int x) h
      | none => .nx [rd, some (.int lo), some (.tup (bs.map .int)), some (.int p.1), some (.int p.2), y5, y6, x7] h := by
  have hm : (if lo > p.1 then lo else p.1) = (if lo < p.1 then p.1 else lo) := by split <;> split <;> omega
  generalize hf : (if lo < p.1 then p.1 else lo) = f at hm ⊢
  have f0 : -100000000000000 ≤ f ∧ f ≤ 100000000000000 := by split at hf <;> omega
  have hg : -2 ^ 62 ≤ f ∧ f < 2 ^ 62 ∧ -2 ^ 62 ≤ (if f + (bs.length : Int) < p.2 then f + (bs.length : Int) else p.2) + 1 ∧ (if f + (bs.length : Int) < p.2 then f + (bs.length : Int) else p.2) + 1 < 2 ^ 62 := by
    refine ⟨by omega, by omega, ?_, ?_⟩ <;> split <;> omega
  have C := compL_map (ok := fun _ => true) (own := [7]) (g := .one 7) (t := Q_law_first_1) (e := E_law_first_1) (s := [rd, some (.int lo), some (.tup (bs.map .int)), some (.int p.1), some (.int p.2), some (.int f), x6, x7]) (h := h) D.int (fun x => !decide (x ∈ bs)) D.int rfl
    (intsR f ((if f + (bs.length : Int) < p.2 then f + (bs.length : Int) else p.2) + 1)) [] (fun x _ => ⟨[rd, some (.int lo), some (.tup (bs.map .int)), some (.int p.1), some (.int p.2), some (.int f), x6, some (.int x)], rfl, by
      simp (disch := omega) only [fnM, eVar, eC, eBin, eUn, aNil, aCons, eTup, eLst, eLstN, eFn, eIf, eFld, eCall, eMeth, eMake, insOf, tst, tstB, MP.tAnd, MP.tOr, MP.tNot, eAnd, eOr, eNot, eChain, truth, optR, Res.bind, Res.bindS, sNil, sSeq, sExp, sRet, sRetN, sIf, sAsg, sSet, sPar, MP.sFld, MP.sFldAug, sFor, nxO, gNm, gFld, gIx, setIx, setFld, gsNil, gsCons, gTp, gLs, MP.iRng1, MP.iRng2, iSeq, iLst, MP.iTup, seqL, seqM, seqT, seqX, eIsi, tyName, isi_ii, isi_ib, isi_bi, isi_bb, isi_ni, isi_si, isi_ss, isi_is, isi_tt, isi_ti, isi_li, pAdd, pSub, pMul_ok, pDiv_ok, pMod_ok, pNeg, pLt, pLe, pGt, pGe, pEq, pNe, pEqB, sEq, pIs, pIsNot, MP.isNon, pIx, fAbs, fMax2, fMin2, fInt, fLen, gSel, pick, AH.put_g, AH.put_n, AH.new_g, AH.new_n, AH.put_same, AH.new_same, AH.put_put, AH.new_put, List.length_cons, List.length_nil, List.map_cons, List.map_nil, List.cons_append, List.nil_append, List.append_nil, List.replicate, List.getElem?_cons_zero, List.getElem?_cons_succ, List.getElem?_nil, List.set_cons_zero, List.set_cons_succ, List.flatMap_cons, List.flatMap_nil, List.drop_zero, List.drop_succ_cons, List.drop_nil, List.take_succ_cons, List.take_zero, List.take_nil, List.contains_cons, List.contains_nil, Bool.or_false, Bool.or_true, Bool.true_or, Bool.false_or, Bool.and_true, Bool.and_false, Bool.not_true, Bool.not_false, beq_self_eq_true, Nat.reduceAdd, Nat.reduceSub, Nat.reduceLeDiff, Nat.reduceLT, Nat.reduceEqDiff, Nat.reduceBEq, Int.reduceToNat, ↓reduceIte, reduceIte, Bool.false_eq_true, ne_true_f, pow10_18, pow10_10, pow10_11, pow10_6, decide_eq_true_eq, and_self, and_true, true_and, Nat.zero_le, Option.map_some, Option.map_none, Option.bind_some, Int.reduceLT, Int.reduceLE, Int.reduceNeg, decide_true, decide_false, ixN_0, ixN_1, ixN_2, ixN_3, ixN_m1, atI_1, atI_2, atI_3, eq_self, Option.some.injEq, false_and, atI_0, Nat.zero_add, Nat.add_zero, sRaise, sRaise0, sTryO, noEx, fAny, fAll, blsL, compL, wipeD, CT.set, eComp, eCompN, lstOk, fSum, fTuple, fList, sAug, pAddI, pSubI, pIn, pNotIn, inB, MP.iZip, iEnumA, fSortP, fSortSet, eSl, partD, zipD_ints, pairsL_map, eBm, mAppend, List.any_cons, List.any_nil, List.all_cons, List.all_nil, id, List.length_append, List.zip_cons_cons, List.zip_nil_left, List.reverse_cons, List.reverse_nil, eqb_int, eqb_str, eqb_bl, kc0, kc1, kc2, kc3, kc4, kc5, kc6, kc7, kc8, kc9, kc10, kc11, kc12, kc13, kc14, kc15, kc16, kc17, kc18, kc19, kc20, Int.reduceBEq, Int.reduceMul, Int.reduceSub, Pool_get_kept, Pool_set_kept, Pool_put_0, Pool_no_stretches, Pool_no___len__, Pool_no_has, Pool_no_number_at, Pool_no_place_of, Pool_no_first_from, Pool_no_joined, Pool_no_met, Pool_no_without, Pool_no_dealt, Pool_no___eq__, Pool_no___str__, Pool_no___repr__, Q_law_first_1, intsL_map], fun _ => by simp (disch := omega) only [fnM, eVar, eC, eBin, eUn, aNil, aCons, eTup, eLst, eLstN, eFn, eIf, eFld, eCall, eMeth, eMake, insOf, tst, tstB, MP.tAnd, MP.tOr, MP.tNot, eAnd, eOr, eNot, eChain, truth, optR, Res.bind, Res.bindS, sNil, sSeq, sExp, sRet, sRetN, sIf, sAsg, sSet, sPar, MP.sFld, MP.sFldAug, sFor, nxO, gNm, gFld, gIx, setIx, setFld, gsNil, gsCons, gTp, gLs, MP.iRng1, MP.iRng2, iSeq, iLst, MP.iTup, seqL, seqM, seqT, seqX, eIsi, tyName, isi_ii, isi_ib, isi_bi, isi_bb, isi_ni, isi_si, isi_ss, isi_is, isi_tt, isi_ti, isi_li, pAdd, pSub, pMul_ok, pDiv_ok, pMod_ok, pNeg, pLt, pLe, pGt, pGe, pEq, pNe, pEqB, sEq, pIs, pIsNot, MP.isNon, pIx, fAbs, fMax2, fMin2, fInt, fLen, gSel, pick, AH.put_g, AH.put_n, AH.new_g, AH.new_n, AH.put_same, AH.new_same, AH.put_put, AH.new_put, List.length_cons, List.length_nil, List.map_cons, List.map_nil, List.cons_append, List.nil_append, List.append_nil, List.replicate, List.getElem?_cons_zero, List.getElem?_cons_succ, List.getElem?_nil, List.set_cons_zero, List.set_cons_succ, List.flatMap_cons, List.flatMap_nil, List.drop_zero, List.drop_succ_cons, List.drop_nil, List.take_succ_cons, List.take_zero, List.take_nil, List.contains_cons, List.contains_nil, Bool.or_false, Bool.or_true, Bool.true_or, Bool.false_or, Bool.and_true, Bool.and_false, Bool.not_true, Bool.not_false, beq_self_eq_true, Nat.reduceAdd, Nat.reduceSub, Nat.reduceLeDiff, Nat.reduceLT, Nat.reduceEqDiff, Nat.reduceBEq, Int.reduceToNat, ↓reduceIte, reduceIte, Bool.false_eq_true, ne_true_f, pow10_18, pow10_10, pow10_11, pow10_6, decide_eq_true_eq, and_self, and_true, true_and, Nat.zero_le, Option.map_some, Option.map_none, Option.bind_some, Int.reduceLT, Int.reduceLE, Int.reduceNeg, decide_true, decide_false, ixN_0, ixN_1, ixN_2, ixN_3, ixN_m1, atI_1, atI_2, atI_3, eq_self, Option.some.injEq, false_and, atI_0, Nat.zero_add, Nat.add_zero, sRaise, sRaise0, sTryO, noEx, fAny, fAll, blsL, compL, wipeD, CT.set, eComp, eCompN, lstOk, fSum, fTuple, fList, sAug, pAddI, pSubI, pIn, pNotIn, inB, MP.iZip, iEnumA, fSortP, fSortSet, eSl, partD, zipD_ints, pairsL_map, eBm, mAppend, List.any_cons, List.any_nil, List.all_cons, List.all_nil, id, List.length_append, List.zip_cons_cons, List.zip_nil_left, List.reverse_cons, List.reverse_nil, eqb_int, eqb_str, eqb_bl, kc0, kc1, kc2, kc3, kc4, kc5, kc6, kc7, kc8, kc9, kc10, kc11, kc12, kc13, kc14, kc15, kc16, kc17, kc18, kc19, kc20, Int.reduceBEq, Int.reduceMul, Int.reduceSub, Pool_get_kept, Pool_set_kept, Pool_put_0, Pool_no_stretches, Pool_no___len__, Pool_no_has, Pool_no_number_at, Pool_no_place_of, Pool_no_first_from, Pool_no_joined, Pool_no_met, Pool_no_without, Pool_no_dealt, Pool_no___eq__, Pool_no___str__, Pool_no___repr__, E_law_first_1]⟩) (by
        rw [intsR_len]
        simp only [List.length_nil]
        split <;> omega)
  have hh : fst1 f p.2 bs = ((intsR f ((if f + (bs.length : Int) < p.2 then f + (bs.length : Int) else p.2) + 1)).filter fun x => !decide (x ∈ bs)).head? := by
    unfold fst1
    rw [fstF_head]
    have e1 : f + ((bs.length + 1 : Nat) : Int) - 1 = f + (bs.length : Int) := by omega
    rw [e1]
    congr 1
    refine List.filter_congr fun x _ => ?_
    simp
  rw [hh]
  rw [← rng_ints] at C
  generalize (intsR f ((if f + (bs.length : Int) < p.2 then f + (bs.length : Int) else p.2) + 1)).filter (fun x => !decide (x ∈ bs)) = L at C ⊢
  refine ⟨some (.int f), some (.lst (L.map .int)), ?_⟩
  have ne := eqb_nilI (h := h) L
  cases L with
  | nil =>
    have ne' : pEqB h (.lst []) (.lst []) = some true := eqb_nilI []
    simp (disch := omega) only [fnM, eVar, eC, eBin, eUn, aNil, aCons, eTup, eLst, eLstN, eFn, eIf, eFld, eCall, eMeth, eMake, insOf, tst, tstB, MP.tAnd, MP.tOr, MP.tNot, eAnd, eOr, eNot, eChain, truth, optR, Res.bind, Res.bindS, sNil, sSeq, sExp, sRet, sRetN, sIf, sAsg, sSet, sPar, MP.sFld, MP.sFldAug, sFor, nxO, gNm, gFld, gIx, setIx, setFld, gsNil, gsCons, gTp, gLs, MP.iRng1, MP.iRng2, iSeq, iLst, MP.iTup, seqL, seqM, seqT, seqX, eIsi, tyName, isi_ii, isi_ib, isi_bi, isi_bb, isi_ni, isi_si, isi_ss, isi_is, isi_tt, isi_ti, isi_li, pAdd, pSub, pMul_ok, pDiv_ok, pMod_ok, pNeg, pLt, pLe, pGt, pGe, pEq, pNe, sEq, pIs, pIsNot, MP.isNon, pIx, fAbs, fMax2, fMin2, fInt, fLen, gSel, pick, AH.put_g, AH.put_n, AH.new_g, AH.new_n, AH.put_same, AH.new_same, AH.put_put, AH.new_put, List.length_cons, List.length_nil, List.map_cons, List.map_nil, List.cons_append, List.nil_append, List.append_nil, List.replicate, List.getElem?_cons_zero, List.getElem?_cons_succ, List.getElem?_nil, List.set_cons_zero, List.set_cons_succ, List.flatMap_cons, List.flatMap_nil, List.drop_zero, List.drop_succ_cons, List.drop_nil, List.take_succ_cons, List.take_zero, List.take_nil, List.contains_cons, List.contains_nil, Bool.or_false, Bool.or_true, Bool.true_or, Bool.false_or, Bool.and_true, Bool.and_false, Bool.not_true, Bool.not_false, beq_self_eq_true, Nat.reduceAdd, Nat.reduceSub, Nat.reduceLeDiff, Nat.reduceLT, Nat.reduceEqDiff, Nat.reduceBEq, Int.reduceToNat, ↓reduceIte, reduceIte, Bool.false_eq_true, ne_true_f, pow10_18, pow10_10, pow10_11, pow10_6, decide_eq_true_eq, and_self, and_true, true_and, Nat.zero_le, Option.map_some, Option.map_none, Option.bind_some, Int.reduceLT, Int.reduceLE, Int.reduceNeg, decide_true, decide_false, ixN_0, ixN_1, ixN_2, ixN_3, ixN_m1, atI_1, atI_2, atI_3, eq_self, Option.some.injEq, false_and, atI_0, Nat.zero_add, Nat.add_zero, sRaise, sRaise0, sTryO, noEx, fAny, fAll, blsL, compL, wipeD, CT.set, eComp, eCompN, lstOk, fSum, fTuple, fList, sAug, pAddI, pSubI, pIn, pNotIn, inB, MP.iZip, iEnumA, fSortP, fSortSet, eSl, partD, zipD_ints, pairsL_map, eBm, mAppend, List.any_cons, List.any_nil, List.all_cons, List.all_nil, id, List.length_append, List.zip_cons_cons, List.zip_nil_left, List.reverse_cons, List.reverse_nil, eqb_int, eqb_str, eqb_bl, kc0, kc1, kc2, kc3, kc4, kc5, kc6, kc7, kc8, kc9, kc10, kc11, kc12, kc13, kc14, kc15, kc16, kc17, kc18, kc19, kc20, Int.reduceBEq, Int.reduceMul, Int.reduceSub, Pool_get_kept, Pool_set_kept, Pool_put_0, Pool_no_stretches, Pool_no___len__, Pool_no_has, Pool_no_number_at, Pool_no_place_of, Pool_no_first_from, Pool_no_joined, Pool_no_met, Pool_no_without, Pool_no_dealt, Pool_no___eq__, Pool_no___str__, Pool_no___repr__, L_law_first_3, hm, List.length_map, hg, C, List.head?_nil, ne']
  | cons n L =>
    have a0 : atI ((n :: L).map D.int) 0 = some (.int n) := atI_0 ..
    simp (disch := omega) only [fnM, eVar, eC, eBin, eUn, aNil, aCons, eTup, eLst, eLstN, eFn, eIf, eFld, eCall, eMeth, eMake, insOf, tst, tstB, MP.tAnd, MP.tOr, MP.tNot, eAnd, eOr, eNot, eChain, truth, optR, Res.bind, Res.bindS, sNil, sSeq, sExp, sRet, sRetN, sIf, sAsg, sSet, sPar, MP.sFld, MP.sFldAug, sFor, nxO, gNm, gFld, gIx, setIx, setFld, gsNil, gsCons, gTp, gLs, MP.iRng1, MP.iRng2, iSeq, iLst, MP.iTup, seqL, seqM, seqT, seqX, eIsi, tyName, isi_ii, isi_ib, isi_bi, isi_bb, isi_ni, isi_si, isi_ss, isi_is, isi_tt, isi_ti, isi_li, pAdd, pSub, pMul_ok, pDiv_ok, pMod_ok, pNeg, pLt, pLe, pGt, pGe, pEq, pNe, sEq, pIs, pIsNot, MP.isNon, pIx, fAbs, fMax2, fMin2, fInt, fLen, gSel, pick, AH.put_g, AH.put_n, AH.new_g, AH.new_n, AH.put_same, AH.new_same, AH.put_put, AH.new_put, List.length_cons, List.length_nil, List.map_nil, List.cons_append, List.nil_append, List.append_nil, List.replicate, List.getElem?_cons_zero, List.getElem?_cons_succ, List.getElem?_nil, List.set_cons_zero, List.set_cons_succ, List.flatMap_cons, List.flatMap_nil, List.drop_zero, List.drop_succ_cons, List.drop_nil, List.take_succ_cons, List.take_zero, List.take_nil, List.contains_cons, List.contains_nil, Bool.or_false, Bool.or_true, Bool.true_or, Bool.false_or, Bool.and_true, Bool.and_false, Bool.not_true, Bool.not_false, beq_self_eq_true, Nat.reduceAdd, Nat.reduceSub, Nat.reduceLeDiff, Nat.reduceLT, Nat.reduceEqDiff, Nat.reduceBEq, Int.reduceToNat, ↓reduceIte, reduceIte, Bool.false_eq_true, ne_true_f, pow10_18, pow10_10, pow10_11, pow10_6, decide_eq_true_eq, and_self, and_true, true_and, Nat.zero_le, Option.map_some, Option.map_none, Option.bind_some, Int.reduceLT, Int.reduceLE, Int.reduceNeg, decide_true, decide_false, ixN_0, ixN_1, ixN_2, ixN_3, ixN_m1, atI_1, atI_2, atI_3, eq_self, Option.some.injEq, false_and, atI_0, Nat.zero_add, Nat.add_zero, sRaise, sRaise0, sTryO, noEx, fAny, fAll, blsL, compL, wipeD, CT.set, eComp, eCompN, lstOk, fSum, fTuple, fList, sAug, pAddI, pSubI, pIn, pNotIn, inB, MP.iZip, iEnumA, fSortP, fSortSet, eSl, partD, zipD_ints, pairsL_map, eBm, mAppend, List.any_cons, List.any_nil, List.all_cons, List.all_nil, id, List.length_append, List.zip_cons_cons, List.zip_nil_left, List.reverse_cons, List.reverse_nil, eqb_int, eqb_str, eqb_bl, kc0, kc1, kc2, kc3, kc4, kc5, kc6, kc7, kc8, kc9, kc10, kc11, kc12, kc13, kc14, kc15, kc16, kc17, kc18, kc19, kc20, Int.reduceBEq, Int.reduceMul, Int.reduceSub, Pool_get_kept, Pool_set_kept, Pool_put_0, Pool_no_stretches, Pool_no___len__, Pool_no_has, Pool_no_number_at, Pool_no_place_of, Pool_no_first_from, Pool_no_joined, Pool_no_met, Pool_no_without, Pool_no_dealt, Pool_no___eq__, Pool_no___str__, Pool_no___repr__, L_law_first_3, hm, List.length_map, hg, C, List.head?_cons, ne, List.isEmpty_cons, a0]

theorem lawfirst_go {rd : Option D} {lo : Int} {bs : List Int} {h : AH} (hb : bs.length ≤ 1000) (l0 : -100000000000000 ≤ lo) (l1 : lo ≤ 100000000000000) : ∀ (ps : List PRow) (x3 x4 x5 x6 x7 : Option D), Good ps →
    ∃ s', forL (fun _ => true) (gTp 2 (gsCons (gNm 3) (gsCons (gNm 4) gsNil))) L_law_first_3 (ps.map tupP) [rd, some (.int lo), some (.tup (bs.map .int)), x3, x4, x5, x6, x7] h =
      match firstR bs lo ps with
      | some x => .rt (.int x) h
      | none => .nx s' h
  | [], x3, x4, x5, x6, x7, _ => ⟨_, rfl⟩
  | p :: ps, x3, x4, x5, x6, x7, g => by
    obtain ⟨y5, y6, e⟩ := lawfirst_step (rd := rd) (p := p) (x5 := x5) (x6 := x6) (x7 := x7) (h := h) hb (g p List.mem_cons_self) l0 l1
    obtain ⟨s', e2⟩ := lawfirst_go hb l0 l1 ps (some (.int p.1)) (some (.int p.2)) y5 y6 x7 (fun q hq => g q (List.mem_cons_of_mem _ hq))
    have gt : gTp 2 (gsCons (gNm 3) (gsCons (gNm 4) gsNil)) (tupP p) [rd, some (.int lo), some (.tup (bs.map .int)), x3, x4, x5, x6, x7] h = some ([rd, some (.int lo), some (.tup (bs.map .int)), some (.int p.1), some (.int p.2), x5, x6, x7], h) := rfl
    refine ⟨s', ?_⟩
    simp only [List.map_cons, forL, if_pos, gt, e, firstR]
    cases q : fst1 (if lo < p.1 then p.1 else lo) p.2 bs with
    | some x => rfl
    | none => simpa only [q] using e2
theorem lawfirst_ok {lo : Int} {bs : List Int} {h : AH} {ps : List PRow} (hb : bs.length ≤ 1000) (l0 : -100000000000000 ≤ lo) (l1 : lo ≤ 100000000000000) (g : Good ps) :
    f_law_first [.tup (ps.map tupP), .int lo, .tup (bs.map .int)] h = .ok (optD (firstR bs lo ps)) h := by
  obtain ⟨s', e⟩ := lawfirst_go (rd := some (.tup (ps.map tupP))) (h := h) hb l0 l1 ps none none none none none g
  cases q : firstR bs lo ps with
  | some x =>
    rw [q] at e
    dsimp only at e
    simp (disch := omega) only [fnM, eVar, eC, eBin, eUn, aNil, aCons, eTup, eLst, eLstN, eFn, eIf, eFld, eCall, eMeth, eMake, insOf, tst, tstB, MP.tAnd, MP.tOr, MP.tNot, eAnd, eOr, eNot, eChain, truth, optR, Res.bind, Res.bindS, sNil, sSeq, sExp, sRet, sRetN, sIf, sAsg, sSet, sPar, MP.sFld, MP.sFldAug, sFor, nxO, gNm, gFld, gIx, setIx, setFld, gsNil, gsCons, gTp, gLs, MP.iRng1, MP.iRng2, iSeq, iLst, MP.iTup, seqL, seqM, seqT, seqX, eIsi, tyName, isi_ii, isi_ib, isi_bi, isi_bb, isi_ni, isi_si, isi_ss, isi_is, isi_tt, isi_ti, isi_li, pAdd, pSub, pMul_ok, pDiv_ok, pMod_ok, pNeg, pLt, pLe, pGt, pGe, pEq, pNe, pEqB, sEq, pIs, pIsNot, MP.isNon, pIx, fAbs, fMax2, fMin2, fInt, fLen, gSel, pick, AH.put_g, AH.put_n, AH.new_g, AH.new_n, AH.put_same, AH.new_same, AH.put_put, AH.new_put, List.length_cons, List.length_nil, List.map_cons, List.map_nil, List.cons_append, List.nil_append, List.append_nil, List.replicate, List.getElem?_cons_zero, List.getElem?_cons_succ, List.getElem?_nil, List.set_cons_zero, List.set_cons_succ, List.flatMap_cons, List.flatMap_nil, List.drop_zero, List.drop_succ_cons, List.drop_nil, List.take_succ_cons, List.take_zero, List.take_nil, List.contains_cons, List.contains_nil, Bool.or_false, Bool.or_true, Bool.true_or, Bool.false_or, Bool.and_true, Bool.and_false, Bool.not_true, Bool.not_false, beq_self_eq_true, Nat.reduceAdd, Nat.reduceSub, Nat.reduceLeDiff, Nat.reduceLT, Nat.reduceEqDiff, Nat.reduceBEq, Int.reduceToNat, ↓reduceIte, reduceIte, Bool.false_eq_true, ne_true_f, pow10_18, pow10_10, pow10_11, pow10_6, decide_eq_true_eq, and_self, and_true, true_and, Nat.zero_le, Option.map_some, Option.map_none, Option.bind_some, Int.reduceLT, Int.reduceLE, Int.reduceNeg, decide_true, decide_false, ixN_0, ixN_1, ixN_2, ixN_3, ixN_m1, atI_1, atI_2, atI_3, eq_self, Option.some.injEq, false_and, atI_0, Nat.zero_add, Nat.add_zero, sRaise, sRaise0, sTryO, noEx, fAny, fAll, blsL, compL, wipeD, CT.set, eComp, eCompN, lstOk, fSum, fTuple, fList, sAug, pAddI, pSubI, pIn, pNotIn, inB, MP.iZip, iEnumA, fSortP, fSortSet, eSl, partD, zipD_ints, pairsL_map, eBm, mAppend, List.any_cons, List.any_nil, List.all_cons, List.all_nil, id, List.length_append, List.zip_cons_cons, List.zip_nil_left, List.reverse_cons, List.reverse_nil, eqb_int, eqb_str, eqb_bl, kc0, kc1, kc2, kc3, kc4, kc5, kc6, kc7, kc8, kc9, kc10, kc11, kc12, kc13, kc14, kc15, kc16, kc17, kc18, kc19, kc20, Int.reduceBEq, Int.reduceMul, Int.reduceSub, Pool_get_kept, Pool_set_kept, Pool_put_0, Pool_no_stretches, Pool_no___len__, Pool_no_has, Pool_no_number_at, Pool_no_place_of, Pool_no_first_from, Pool_no_joined, Pool_no_met, Pool_no_without, Pool_no_dealt, Pool_no___eq__, Pool_no___str__, Pool_no___repr__, f_law_first, b_law_first, e, optD]
  | none =>
    rw [q] at e
    dsimp only at e
    simp (disch := omega) only [fnM, eVar, eC, eBin, eUn, aNil, aCons, eTup, eLst, eLstN, eFn, eIf, eFld, eCall, eMeth, eMake, insOf, tst, tstB, MP.tAnd, MP.tOr, MP.tNot, eAnd, eOr, eNot, eChain, truth, optR, Res.bind, Res.bindS, sNil, sSeq, sExp, sRet, sRetN, sIf, sAsg, sSet, sPar, MP.sFld, MP.sFldAug, sFor, nxO, gNm, gFld, gIx, setIx, setFld, gsNil, gsCons, gTp, gLs, MP.iRng1, MP.iRng2, iSeq, iLst, MP.iTup, seqL, seqM, seqT, seqX, eIsi, tyName, isi_ii, isi_ib, isi_bi, isi_bb, isi_ni, isi_si, isi_ss, isi_is, isi_tt, isi_ti, isi_li, pAdd, pSub, pMul_ok, pDiv_ok, pMod_ok, pNeg, pLt, pLe, pGt, pGe, pEq, pNe, pEqB, sEq, pIs, pIsNot, MP.isNon, pIx, fAbs, fMax2, fMin2, fInt, fLen, gSel, pick, AH.put_g, AH.put_n, AH.new_g, AH.new_n, AH.put_same, AH.new_same, AH.put_put, AH.new_put, List.length_cons, List.length_nil, List.map_cons, List.map_nil, List.cons_append, List.nil_append, List.append_nil, List.replicate, List.getElem?_cons_zero, List.getElem?_cons_succ, List.getElem?_nil, List.set_cons_zero, List.set_cons_succ, List.flatMap_cons, List.flatMap_nil, List.drop_zero, List.drop_succ_cons, List.drop_nil, List.take_succ_cons, List.take_zero, List.take_nil, List.contains_cons, List.contains_nil, Bool.or_false, Bool.or_true, Bool.true_or, Bool.false_or, Bool.and_true, Bool.and_false, Bool.not_true, Bool.not_false, beq_self_eq_true, Nat.reduceAdd, Nat.reduceSub, Nat.reduceLeDiff, Nat.reduceLT, Nat.reduceEqDiff, Nat.reduceBEq, Int.reduceToNat, ↓reduceIte, reduceIte, Bool.false_eq_true, ne_true_f, pow10_18, pow10_10, pow10_11, pow10_6, decide_eq_true_eq, and_self, and_true, true_and, Nat.zero_le, Option.map_some, Option.map_none, Option.bind_some, Int.reduceLT, Int.reduceLE, Int.reduceNeg, decide_true, decide_false, ixN_0, ixN_1, ixN_2, ixN_3, ixN_m1, atI_1, atI_2, atI_3, eq_self, Option.some.injEq, false_and, atI_0, Nat.zero_add, Nat.add_zero, sRaise, sRaise0, sTryO, noEx, fAny, fAll, blsL, compL, wipeD, CT.set, eComp, eCompN, lstOk, fSum, fTuple, fList, sAug, pAddI, pSubI, pIn, pNotIn, inB, MP.iZip, iEnumA, fSortP, fSortSet, eSl, partD, zipD_ints, pairsL_map, eBm, mAppend, List.any_cons, List.any_nil, List.all_cons, List.all_nil, id, List.length_append, List.zip_cons_cons, List.zip_nil_left, List.reverse_cons, List.reverse_nil, eqb_int, eqb_str, eqb_bl, kc0, kc1, kc2, kc3, kc4, kc5, kc6, kc7, kc8, kc9, kc10, kc11, kc12, kc13, kc14, kc15, kc16, kc17, kc18, kc19, kc20, Int.reduceBEq, Int.reduceMul, Int.reduceSub, Pool_get_kept, Pool_set_kept, Pool_put_0, Pool_no_stretches, Pool_no___len__, Pool_no_has, Pool_no_number_at, Pool_no_place_of, Pool_no_first_from, Pool_no_joined, Pool_no_met, Pool_no_without, Pool_no_dealt, Pool_no___eq__, Pool_no___str__, Pool_no___repr__, f_law_first, b_law_first, e, optD]
/-- the program's way along a row -/
theorem while_go {x0 : Option D} {lo e : Int} {bs : List Int} {y3 : Option D} {h : AH} (f0 : Int) : ∀ (k : Nat) (f : Int) (F : Nat), f - f0 + (k : Int) = (bs.length : Int) + 1 → f0 ≤ f → (∀ y, f0 ≤ y → y < f → y ∈ bs) → k < F →
    ∃ x, whL T_Pool_first_from_2 L_Pool_first_from_1 F [x0, some (.int lo), some (.tup (bs.map .int)), y3, some (.int e), some (.int f)] h =
      .nx [x0, some (.int lo), some (.tup (bs.map .int)), y3, some (.int e), some (.int x)] h ∧ ((fstF k f e bs = none ∧ ¬ x ≤ e) ∨ (fstF k f e bs = some x ∧ x ≤ e))
  | 0, f, F, hk, h1, h2, _ => by
    have := pigeon (bs.length + 1) f0 bs fun y a b => h2 y a (by omega)
    omega
  | k + 1, f, 0, _, _, _, hF => absurd hF (Nat.not_lt_zero _)
  | k + 1, f, F + 1, hk, h1, h2, hF => by
    by_cases he : f ≤ e
    · by_cases hb : f ∈ bs
      · obtain ⟨x, r1, r2⟩ := while_go (x0 := x0) (lo := lo) (e := e) (bs := bs) (y3 := y3) (h := h) f0 k (f + 1) F (by omega) (by omega) (fun y a b => by
          by_cases q : y = f
          · rw [q]; exact hb
          · exact h2 y a (by omega)) (by omega)
        refine ⟨x, ?_, ?_⟩
        · have hd : decide (f ∈ bs) = true := decide_eq_true hb
          simp only [whL]
          simp (disch := omega) only [fnM, eVar, eC, eBin, eUn, aNil, aCons, eTup, eLst, eLstN, eFn, eIf, eFld, eCall, eMeth, eMake, insOf, tst, tstB, MP.tAnd, MP.tOr, MP.tNot, eAnd, eOr, eNot, eChain, truth, optR, Res.bind, Res.bindS, sNil, sSeq, sExp, sRet, sRetN, sIf, sAsg, sSet, sPar, MP.sFld, MP.sFldAug, sFor, nxO, gNm, gFld, gIx, setIx, setFld, gsNil, gsCons, gTp, gLs, MP.iRng1, MP.iRng2, iSeq, iLst, MP.iTup, seqL, seqM, seqT, seqX, eIsi, tyName, isi_ii, isi_ib, isi_bi, isi_bb, isi_ni, isi_si, isi_ss, isi_is, isi_tt, isi_ti, isi_li, pAdd, pSub, pMul_ok, pDiv_ok, pMod_ok, pNeg, pLt, pLe, pGt, pGe, pEq, pNe, pEqB, sEq, pIs, pIsNot, MP.isNon, pIx, fAbs, fMax2, fMin2, fInt, fLen, gSel, pick, AH.put_g, AH.put_n, AH.new_g, AH.new_n, AH.put_same, AH.new_same, AH.put_put, AH.new_put, List.length_cons, List.length_nil, List.map_cons, List.map_nil, List.cons_append, List.nil_append, List.append_nil, List.replicate, List.getElem?_cons_zero, List.getElem?_cons_succ, List.getElem?_nil, List.set_cons_zero, List.set_cons_succ, List.flatMap_cons, List.flatMap_nil, List.drop_zero, List.drop_succ_cons, List.drop_nil, List.take_succ_cons, List.take_zero, List.take_nil, List.contains_cons, List.contains_nil, Bool.or_false, Bool.or_true, Bool.true_or, Bool.false_or, Bool.and_true, Bool.and_false, Bool.not_true, Bool.not_false, beq_self_eq_true, Nat.reduceAdd, Nat.reduceSub, Nat.reduceLeDiff, Nat.reduceLT, Nat.reduceEqDiff, Nat.reduceBEq, Int.reduceToNat, ↓reduceIte, reduceIte, Bool.false_eq_true, ne_true_f, pow10_18, pow10_10, pow10_11, pow10_6, decide_eq_true_eq, and_self, and_true, true_and, Nat.zero_le, Option.map_some, Option.map_none, Option.bind_some, Int.reduceLT, Int.reduceLE, Int.reduceNeg, decide_true, decide_false, ixN_0, ixN_1, ixN_2, ixN_3, ixN_m1, atI_1, atI_2, atI_3, eq_self, Option.some.injEq, false_and, atI_0, Nat.zero_add, Nat.add_zero, sRaise, sRaise0, sTryO, noEx, fAny, fAll, blsL, compL, wipeD, CT.set, eComp, eCompN, lstOk, fSum, fTuple, fList, sAug, pAddI, pSubI, pIn, pNotIn, inB, MP.iZip, iEnumA, fSortP, fSortSet, eSl, partD, zipD_ints, pairsL_map, eBm, mAppend, List.any_cons, List.any_nil, List.all_cons, List.all_nil, id, List.length_append, List.zip_cons_cons, List.zip_nil_left, List.reverse_cons, List.reverse_nil, eqb_int, eqb_str, eqb_bl, kc0, kc1, kc2, kc3, kc4, kc5, kc6, kc7, kc8, kc9, kc10, kc11, kc12, kc13, kc14, kc15, kc16, kc17, kc18, kc19, kc20, Int.reduceBEq, Int.reduceMul, Int.reduceSub, Pool_get_kept, Pool_set_kept, Pool_put_0, Pool_no_stretches, Pool_no___len__, Pool_no_has, Pool_no_number_at, Pool_no_place_of, Pool_no_first_from, Pool_no_joined, Pool_no_met, Pool_no_without, Pool_no_dealt, Pool_no___eq__, Pool_no___str__, Pool_no___repr__, T_Pool_first_from_2, L_Pool_first_from_1, he, hd, intsL_map]
          exact r1
        · unfold fstF
          rw [if_pos he, if_pos hb]
          exact r2
      · refine ⟨f, ?_, .inr ⟨by unfold fstF; rw [if_pos he, if_neg hb], he⟩⟩
        have hd : decide (f ∈ bs) = false := decide_eq_false hb
        simp only [whL]
        simp (disch := omega) only [fnM, eVar, eC, eBin, eUn, aNil, aCons, eTup, eLst, eLstN, eFn, eIf, eFld, eCall, eMeth, eMake, insOf, tst, tstB, MP.tAnd, MP.tOr, MP.tNot, eAnd, eOr, eNot, eChain, truth, optR, Res.bind, Res.bindS, sNil, sSeq, sExp, sRet, sRetN, sIf, sAsg, sSet, sPar, MP.sFld, MP.sFldAug, sFor, nxO, gNm, gFld, gIx, setIx, setFld, gsNil, gsCons, gTp, gLs, MP.iRng1, MP.iRng2, iSeq, iLst, MP.iTup, seqL, seqM, seqT, seqX, eIsi, tyName, isi_ii, isi_ib, isi_bi, isi_bb, isi_ni, isi_si, isi_ss, isi_is, isi_tt, isi_ti, isi_li, pAdd, pSub, pMul_ok, pDiv_ok, pMod_ok, pNeg, pLt, pLe, pGt, pGe, pEq, pNe, pEqB, sEq, pIs, pIsNot, MP.isNon, pIx, fAbs, fMax2, fMin2, fInt, fLen, gSel, pick, AH.put_g, AH.put_n, AH.new_g, AH.new_n, AH.put_same, AH.new_same, AH.put_put, AH.new_put, List.length_cons, List.length_nil, List.map_cons, List.map_nil, List.cons_append, List.nil_append, List.append_nil, List.replicate, List.getElem?_cons_zero, List.getElem?_cons_succ, List.getElem?_nil, List.set_cons_zero, List.set_cons_succ, List.flatMap_cons, List.flatMap_nil, List.drop_zero, List.drop_succ_cons, List.drop_nil, List.take_succ_cons, List.take_zero, List.take_nil, List.contains_cons, List.contains_nil, Bool.or_false, Bool.or_true, Bool.true_or, Bool.false_or, Bool.and_true, Bool.and_false, Bool.not_true, Bool.not_false, beq_self_eq_true, Nat.reduceAdd, Nat.reduceSub, Nat.reduceLeDiff, Nat.reduceLT, Nat.reduceEqDiff, Nat.reduceBEq, Int.reduceToNat, ↓reduceIte, reduceIte, Bool.false_eq_true, ne_true_f, pow10_18, pow10_10, pow10_11, pow10_6, decide_eq_true_eq, and_self, and_true, true_and, Nat.zero_le, Option.map_some, Option.map_none, Option.bind_some, Int.reduceLT, Int.reduceLE, Int.reduceNeg, decide_true, decide_false, ixN_0, ixN_1, ixN_2, ixN_3, ixN_m1, atI_1, atI_2, atI_3, eq_self, Option.some.injEq, false_and, atI_0, Nat.zero_add, Nat.add_zero, sRaise, sRaise0, sTryO, noEx, fAny, fAll, blsL, compL, wipeD, CT.set, eComp, eCompN, lstOk, fSum, fTuple, fList, sAug, pAddI, pSubI, pIn, pNotIn, inB, MP.iZip, iEnumA, fSortP, fSortSet, eSl, partD, zipD_ints, pairsL_map, eBm, mAppend, List.any_cons, List.any_nil, List.all_cons, List.all_nil, id, List.length_append, List.zip_cons_cons, List.zip_nil_left, List.reverse_cons, List.reverse_nil, eqb_int, eqb_str, eqb_bl, kc0, kc1, kc2, kc3, kc4, kc5, kc6, kc7, kc8, kc9, kc10, kc11, kc12, kc13, kc14, kc15, kc16, kc17, kc18, kc19, kc20, Int.reduceBEq, Int.reduceMul, Int.reduceSub, Pool_get_kept, Pool_set_kept, Pool_put_0, Pool_no_stretches, Pool_no___len__, Pool_no_has, Pool_no_number_at, Pool_no_place_of, Pool_no_first_from, Pool_no_joined, Pool_no_met, Pool_no_without, Pool_no_dealt, Pool_no___eq__, Pool_no___str__, Pool_no___repr__, T_Pool_first_from_2, he, hd, intsL_map]
    · refine ⟨f, ?_, .inl ⟨by unfold fstF; rw [if_neg he], he⟩⟩
      simp only [whL]
      simp (disch := omega) only [fnM, eVar, eC, eBin, eUn, aNil, aCons, eTup, eLst, eLstN, eFn, eIf, eFld, eCall, eMeth, eMake, insOf, tst, tstB, MP.tAnd, MP.tOr, MP.tNot, eAnd, eOr, eNot, eChain, truth, optR, Res.bind, Res.bindS, sNil, sSeq, sExp, sRet, sRetN, sIf, sAsg, sSet, sPar, MP.sFld, MP.sFldAug, sFor, nxO, gNm, gFld, gIx, setIx, setFld, gsNil, gsCons, gTp, gLs, MP.iRng1, MP.iRng2, iSeq, iLst, MP.iTup, seqL, seqM, seqT, seqX, eIsi, tyName, isi_ii, isi_ib, isi_bi, isi_bb, isi_ni, isi_si, isi_ss, isi_is, isi_tt, isi_ti, isi_li, pAdd, pSub, pMul_ok, pDiv_ok, pMod_ok, pNeg, pLt, pLe, pGt, pGe, pEq, pNe, pEqB, sEq, pIs, pIsNot, MP.isNon, pIx, fAbs, fMax2, fMin2, fInt, fLen, gSel, pick, AH.put_g, AH.put_n, AH.new_g, AH.new_n, AH.put_same, AH.new_same, AH.put_put, AH.new_put, List.length_cons, List.length_nil, List.map_cons, List.map_nil, List.cons_append, List.nil_append, List.append_nil, List.replicate, List.getElem?_cons_zero, List.getElem?_cons_succ, List.getElem?_nil, List.set_cons_zero, List.set_cons_succ, List.flatMap_cons, List.flatMap_nil, List.drop_zero, List.drop_succ_cons, List.drop_nil, List.take_succ_cons, List.take_zero, List.take_nil, List.contains_cons, List.contains_nil, Bool.or_false, Bool.or_true, Bool.true_or, Bool.false_or, Bool.and_true, Bool.and_false, Bool.not_true, Bool.not_false, beq_self_eq_true, Nat.reduceAdd, Nat.reduceSub, Nat.reduceLeDiff, Nat.reduceLT, Nat.reduceEqDiff, Nat.reduceBEq, Int.reduceToNat, ↓reduceIte, reduceIte, Bool.false_eq_true, ne_true_f, pow10_18, pow10_10, pow10_11, pow10_6, decide_eq_true_eq, and_self, and_true, true_and, Nat.zero_le, Option.map_some, Option.map_none, Option.bind_some, Int.reduceLT, Int.reduceLE, Int.reduceNeg, decide_true, decide_false, ixN_0, ixN_1, ixN_2, ixN_3, ixN_m1, atI_1, atI_2, atI_3, eq_self, Option.some.injEq, false_and, atI_0, Nat.zero_add, Nat.add_zero, sRaise, sRaise0, sTryO, noEx, fAny, fAll, blsL, compL, wipeD, CT.set, eComp, eCompN, lstOk, fSum, fTuple, fList, sAug, pAddI, pSubI, pIn, pNotIn, inB, MP.iZip, iEnumA, fSortP, fSortSet, eSl, partD, zipD_ints, pairsL_map, eBm, mAppend, List.any_cons, List.any_nil, List.all_cons, List.all_nil, id, List.length_append, List.zip_cons_cons, List.zip_nil_left, List.reverse_cons, List.reverse_nil, eqb_int, eqb_str, eqb_bl, kc0, kc1, kc2, kc3, kc4, kc5, kc6, kc7, kc8, kc9, kc10, kc11, kc12, kc13, kc14, kc15, kc16, kc17, kc18, kc19, kc20, Int.reduceBEq, Int.reduceMul, Int.reduceSub, Pool_get_kept, Pool_set_kept, Pool_put_0, Pool_no_stretches, Pool_no___len__, Pool_no_has, Pool_no_number_at, Pool_no_place_of, Pool_no_first_from, Pool_no_joined, Pool_no_met, Pool_no_without, Pool_no_dealt, Pool_no___eq__, Pool_no___str__, Pool_no___repr__, T_Pool_first_from_2, he]

theorem from_step {x0 : Option D} {lo : Int} {bs : List Int} {p : PRow} {x5 : Option D} {h : AH} (hb : bs.length ≤ 1000) :
    ∃ y5, L_Pool_first_from_3 [x0, some (.int lo), some (.tup (bs.map .int)), some (.int p.1), some (.int p.2), x5] h =
      match fst1 (if lo < p.1 then p.1 else lo) p.2 bs with
      | some x => .rt (.int x) h
      | none => .nx [x0, some (.int lo), some (.tup (bs.map .int)), some (.int p.1), some (.int p.2), y5] h := by
  generalize hf : (if lo < p.1 then p.1 else lo) = f
  have hm : (if p.1 > lo then p.1 else lo) = f := hf
  obtain ⟨x, W, r⟩ := while_go (x0 := x0) (lo := lo) (e := p.2) (bs := bs) (y3 := some (.int p.1)) (h := h) f (bs.length + 1) f 100000 (by omega) (Int.le_refl _) (fun y a b => by omega) (by omega)
  refine ⟨some (.int x), ?_⟩
  unfold fst1
  rcases r with ⟨r1, r2⟩ | ⟨r1, r2⟩
  · rw [r1]
    simp (disch := omega) only [fnM, eVar, eC, eBin, eUn, aNil, aCons, eTup, eLst, eLstN, eFn, eIf, eFld, eCall, eMeth, eMake, insOf, tst, tstB, MP.tAnd, MP.tOr, MP.tNot, eAnd, eOr, eNot, eChain, truth, optR, Res.bind, Res.bindS, sNil, sSeq, sExp, sRet, sRetN, sIf, sAsg, sSet, sPar, MP.sFld, MP.sFldAug, sFor, nxO, gNm, gFld, gIx, setIx, setFld, gsNil, gsCons, gTp, gLs, MP.iRng1, MP.iRng2, iSeq, iLst, MP.iTup, seqL, seqM, seqT, seqX, eIsi, tyName, isi_ii, isi_ib, isi_bi, isi_bb, isi_ni, isi_si, isi_ss, isi_is, isi_tt, isi_ti, isi_li, pAdd, pSub, pMul_ok, pDiv_ok, pMod_ok, pNeg, pLt, pLe, pGt, pGe, pEq, pNe, pEqB, sEq, pIs, pIsNot, MP.isNon, pIx, fAbs, fMax2, fMin2, fInt, fLen, gSel, pick, AH.put_g, AH.put_n, AH.new_g, AH.new_n, AH.put_same, AH.new_same, AH.put_put, AH.new_put, List.length_cons, List.length_nil, List.map_cons, List.map_nil, List.cons_append, List.nil_append, List.append_nil, List.replicate, List.getElem?_cons_zero, List.getElem?_cons_succ, List.getElem?_nil, List.set_cons_zero, List.set_cons_succ, List.flatMap_cons, List.flatMap_nil, List.drop_zero, List.drop_succ_cons, List.drop_nil, List.take_succ_cons, List.take_zero, List.take_nil, List.contains_cons, List.contains_nil, Bool.or_false, Bool.or_true, Bool.true_or, Bool.false_or, Bool.and_true, Bool.and_false, Bool.not_true, Bool.not_false, beq_self_eq_true, Nat.reduceAdd, Nat.reduceSub, Nat.reduceLeDiff, Nat.reduceLT, Nat.reduceEqDiff, Nat.reduceBEq, Int.reduceToNat, ↓reduceIte, reduceIte, Bool.false_eq_true, ne_true_f, pow10_18, pow10_10, pow10_11, pow10_6, decide_eq_true_eq, and_self, and_true, true_and, Nat.zero_le, Option.map_some, Option.map_none, Option.bind_some, Int.reduceLT, Int.reduceLE, Int.reduceNeg, decide_true, decide_false, ixN_0, ixN_1, ixN_2, ixN_3, ixN_m1, atI_1, atI_2, atI_3, eq_self, Option.some.injEq, false_and, atI_0, Nat.zero_add, Nat.add_zero, sRaise, sRaise0, sTryO, noEx, fAny, fAll, blsL, compL, wipeD, CT.set, eComp, eCompN, lstOk, fSum, fTuple, fList, sAug, pAddI, pSubI, pIn, pNotIn, inB, MP.iZip, iEnumA, fSortP, fSortSet, eSl, partD, zipD_ints, pairsL_map, eBm, mAppend, List.any_cons, List.any_nil, List.all_cons, List.all_nil, id, List.length_append, List.zip_cons_cons, List.zip_nil_left, List.reverse_cons, List.reverse_nil, eqb_int, eqb_str, eqb_bl, kc0, kc1, kc2, kc3, kc4, kc5, kc6, kc7, kc8, kc9, kc10, kc11, kc12, kc13, kc14, kc15, kc16, kc17, kc18, kc19, kc20, Int.reduceBEq, Int.reduceMul, Int.reduceSub, Pool_get_kept, Pool_set_kept, Pool_put_0, Pool_no_stretches, Pool_no___len__, Pool_no_has, Pool_no_number_at, Pool_no_place_of, Pool_no_first_from, Pool_no_joined, Pool_no_met, Pool_no_without, Pool_no_dealt, Pool_no___eq__, Pool_no___str__, Pool_no___repr__, L_Pool_first_from_3, sWhile, hm, W, r2]
  · rw [r1]
    simp (disch := omega) only [fnM, eVar, eC, eBin, eUn, aNil, aCons, eTup, eLst, eLstN, eFn, eIf, eFld, eCall, eMeth, eMake, insOf, tst, tstB, MP.tAnd, MP.tOr, MP.tNot, eAnd, eOr, eNot, eChain, truth, optR, Res.bind, Res.bindS, sNil, sSeq, sExp, sRet, sRetN, sIf, sAsg, sSet, sPar, MP.sFld, MP.sFldAug, sFor, nxO, gNm, gFld, gIx, setIx, setFld, gsNil, gsCons, gTp, gLs, MP.iRng1, MP.iRng2, iSeq, iLst, MP.iTup, seqL, seqM, seqT, seqX, eIsi, tyName, isi_ii, isi_ib, isi_bi, isi_bb, isi_ni, isi_si, isi_ss, isi_is, isi_tt, isi_ti, isi_li, pAdd, pSub, pMul_ok, pDiv_ok, pMod_ok, pNeg, pLt, pLe, pGt, pGe, pEq, pNe, pEqB, sEq, pIs, pIsNot, MP.isNon, pIx, fAbs, fMax2, fMin2, fInt, fLen, gSel, pick, AH.put_g, AH.put_n, AH.new_g, AH.new_n, AH.put_same, AH.new_same, AH.put_put, AH.new_put, List.length_cons, List.length_nil, List.map_cons, List.map_nil, List.cons_append, List.nil_append, List.append_nil, List.replicate, List.getElem?_cons_zero, List.getElem?_cons_succ, List.getElem?_nil, List.set_cons_zero, List.set_cons_succ, List.flatMap_cons, List.flatMap_nil, List.drop_zero, List.drop_succ_cons, List.drop_nil, List.take_succ_cons, List.take_zero, List.take_nil, List.contains_cons, List.contains_nil, Bool.or_false, Bool.or_true, Bool.true_or, Bool.false_or, Bool.and_true, Bool.and_false, Bool.not_true, Bool.not_false, beq_self_eq_true, Nat.reduceAdd, Nat.reduceSub, Nat.reduceLeDiff, Nat.reduceLT, Nat.reduceEqDiff, Nat.reduceBEq, Int.reduceToNat, ↓reduceIte, reduceIte, Bool.false_eq_true, ne_true_f, pow10_18, pow10_10, pow10_11, pow10_6, decide_eq_true_eq, and_self, and_true, true_and, Nat.zero_le, Option.map_some, Option.map_none, Option.bind_some, Int.reduceLT, Int.reduceLE, Int.reduceNeg, decide_true, decide_false, ixN_0, ixN_1, ixN_2, ixN_3, ixN_m1, atI_1, atI_2, atI_3, eq_self, Option.some.injEq, false_and, atI_0, Nat.zero_add, Nat.add_zero, sRaise, sRaise0, sTryO, noEx, fAny, fAll, blsL, compL, wipeD, CT.set, eComp, eCompN, lstOk, fSum, fTuple, fList, sAug, pAddI, pSubI, pIn, pNotIn, inB, MP.iZip, iEnumA, fSortP, fSortSet, eSl, partD, zipD_ints, pairsL_map, eBm, mAppend, List.any_cons, List.any_nil, List.all_cons, List.all_nil, id, List.length_append, List.zip_cons_cons, List.zip_nil_left, List.reverse_cons, List.reverse_nil, eqb_int, eqb_str, eqb_bl, kc0, kc1, kc2, kc3, kc4, kc5, kc6, kc7, kc8, kc9, kc10, kc11, kc12, kc13, kc14, kc15, kc16, kc17, kc18, kc19, kc20, Int.reduceBEq, Int.reduceMul, Int.reduceSub, Pool_get_kept, Pool_set_kept, Pool_put_0, Pool_no_stretches, Pool_no___len__, Pool_no_has, Pool_no_number_at, Pool_no_place_of, Pool_no_first_from, Pool_no_joined, Pool_no_met, Pool_no_without, Pool_no_dealt, Pool_no___eq__, Pool_no___str__, Pool_no___repr__, L_Pool_first_from_3, sWhile, hm, W, r2]
theorem from_go {x0 : Option D} {lo : Int} {bs : List Int} {h : AH} (hb : bs.length ≤ 1000) : ∀ (ps : List PRow) (x3 x4 x5 : Option D),
    ∃ s', forL (fun _ => true) (gTp 2 (gsCons (gNm 3) (gsCons (gNm 4) gsNil))) L_Pool_first_from_3 (ps.map tupP) [x0, some (.int lo), some (.tup (bs.map .int)), x3, x4, x5] h =
      match firstR bs lo ps with
      | some x => .rt (.int x) h
      | none => .nx s' h
  | [], x3, x4, x5 => ⟨_, rfl⟩
  | p :: ps, x3, x4, x5 => by
    obtain ⟨y5, e⟩ := from_step (x0 := x0) (lo := lo) (p := p) (x5 := x5) (h := h) hb
    obtain ⟨s', e2⟩ := from_go (x0 := x0) (lo := lo) (h := h) hb ps (some (.int p.1)) (some (.int p.2)) y5
    have gt : gTp 2 (gsCons (gNm 3) (gsCons (gNm 4) gsNil)) (tupP p) [x0, some (.int lo), some (.tup (bs.map .int)), x3, x4, x5] h = some ([x0, some (.int lo), some (.tup (bs.map .int)), some (.int p.1), some (.int p.2), x5], h) := rfl
    refine ⟨s', ?_⟩
    simp only [List.map_cons, forL, if_pos, gt, e, firstR]
    cases q : fst1 (if lo < p.1 then p.1 else lo) p.2 bs with
    | some x => rfl
    | none => simpa only [q] using e2
theorem from_ok {a : Nat} {lo : Int} {bs : List Int} {h : AH} {m : List PRow} (P : Pl h a m) (hb : bs.length ≤ 1000) : f_Pool_first_from [.ref a, .int lo, .tup (bs.map .int)] h = .ok (optD (firstR bs lo m)) h := by
  obtain ⟨s', e⟩ := from_go (x0 := some (.ref a)) (lo := lo) (h := h) hb m none none none
  unfold Pl at P
  cases q : firstR bs lo m with
  | some x =>
    rw [q] at e
    dsimp only at e
    simp (disch := omega) only [fnM, eVar, eC, eBin, eUn, aNil, aCons, eTup, eLst, eLstN, eFn, eIf, eFld, eCall, eMeth, eMake, insOf, tst, tstB, MP.tAnd, MP.tOr, MP.tNot, eAnd, eOr, eNot, eChain, truth, optR, Res.bind, Res.bindS, sNil, sSeq, sExp, sRet, sRetN, sIf, sAsg, sSet, sPar, MP.sFld, MP.sFldAug, sFor, nxO, gNm, gFld, gIx, setIx, setFld, gsNil, gsCons, gTp, gLs, MP.iRng1, MP.iRng2, iSeq, iLst, MP.iTup, seqL, seqM, seqT, seqX, eIsi, tyName, isi_ii, isi_ib, isi_bi, isi_bb, isi_ni, isi_si, isi_ss, isi_is, isi_tt, isi_ti, isi_li, pAdd, pSub, pMul_ok, pDiv_ok, pMod_ok, pNeg, pLt, pLe, pGt, pGe, pEq, pNe, pEqB, sEq, pIs, pIsNot, MP.isNon, pIx, fAbs, fMax2, fMin2, fInt, fLen, gSel, pick, AH.put_g, AH.put_n, AH.new_g, AH.new_n, AH.put_same, AH.new_same, AH.put_put, AH.new_put, List.length_cons, List.length_nil, List.map_cons, List.map_nil, List.cons_append, List.nil_append, List.append_nil, List.replicate, List.getElem?_cons_zero, List.getElem?_cons_succ, List.getElem?_nil, List.set_cons_zero, List.set_cons_succ, List.flatMap_cons, List.flatMap_nil, List.drop_zero, List.drop_succ_cons, List.drop_nil, List.take_succ_cons, List.take_zero, List.take_nil, List.contains_cons, List.contains_nil, Bool.or_false, Bool.or_true, Bool.true_or, Bool.false_or, Bool.and_true, Bool.and_false, Bool.not_true, Bool.not_false, beq_self_eq_true, Nat.reduceAdd, Nat.reduceSub, Nat.reduceLeDiff, Nat.reduceLT, Nat.reduceEqDiff, Nat.reduceBEq, Int.reduceToNat, ↓reduceIte, reduceIte, Bool.false_eq_true, ne_true_f, pow10_18, pow10_10, pow10_11, pow10_6, decide_eq_true_eq, and_self, and_true, true_and, Nat.zero_le, Option.map_some, Option.map_none, Option.bind_some, Int.reduceLT, Int.reduceLE, Int.reduceNeg, decide_true, decide_false, ixN_0, ixN_1, ixN_2, ixN_3, ixN_m1, atI_1, atI_2, atI_3, eq_self, Option.some.injEq, false_and, atI_0, Nat.zero_add, Nat.add_zero, sRaise, sRaise0, sTryO, noEx, fAny, fAll, blsL, compL, wipeD, CT.set, eComp, eCompN, lstOk, fSum, fTuple, fList, sAug, pAddI, pSubI, pIn, pNotIn, inB, MP.iZip, iEnumA, fSortP, fSortSet, eSl, partD, zipD_ints, pairsL_map, eBm, mAppend, List.any_cons, List.any_nil, List.all_cons, List.all_nil, id, List.length_append, List.zip_cons_cons, List.zip_nil_left, List.reverse_cons, List.reverse_nil, eqb_int, eqb_str, eqb_bl, kc0, kc1, kc2, kc3, kc4, kc5, kc6, kc7, kc8, kc9, kc10, kc11, kc12, kc13, kc14, kc15, kc16, kc17, kc18, kc19, kc20, Int.reduceBEq, Int.reduceMul, Int.reduceSub, Pool_get_kept, Pool_set_kept, Pool_put_0, Pool_no_stretches, Pool_no___len__, Pool_no_has, Pool_no_number_at, Pool_no_place_of, Pool_no_first_from, Pool_no_joined, Pool_no_met, Pool_no_without, Pool_no_dealt, Pool_no___eq__, Pool_no___str__, Pool_no___repr__, f_Pool_first_from, b_Pool_first_from, P, e, optD]
  | none =>
    rw [q] at e
    dsimp only at e
    simp (disch := omega) only [fnM, eVar, eC, eBin, eUn, aNil, aCons, eTup, eLst, eLstN, eFn, eIf, eFld, eCall, eMeth, eMake, insOf, tst, tstB, MP.tAnd, MP.tOr, MP.tNot, eAnd, eOr, eNot, eChain, truth, optR, Res.bind, Res.bindS, sNil, sSeq, sExp, sRet, sRetN, sIf, sAsg, sSet, sPar, MP.sFld, MP.sFldAug, sFor, nxO, gNm, gFld, gIx, setIx, setFld, gsNil, gsCons, gTp, gLs, MP.iRng1, MP.iRng2, iSeq, iLst, MP.iTup, seqL, seqM, seqT, seqX, eIsi, tyName, isi_ii, isi_ib, isi_bi, isi_bb, isi_ni, isi_si, isi_ss, isi_is, isi_tt, isi_ti, isi_li, pAdd, pSub, pMul_ok, pDiv_ok, pMod_ok, pNeg, pLt, pLe, pGt, pGe, pEq, pNe, pEqB, sEq, pIs, pIsNot, MP.isNon, pIx, fAbs, fMax2, fMin2, fInt, fLen, gSel, pick, AH.put_g, AH.put_n, AH.new_g, AH.new_n, AH.put_same, AH.new_same, AH.put_put, AH.new_put, List.length_cons, List.length_nil, List.map_cons, List.map_nil, List.cons_append, List.nil_append, List.append_nil, List.replicate, List.getElem?_cons_zero, List.getElem?_cons_succ, List.getElem?_nil, List.set_cons_zero, List.set_cons_succ, List.flatMap_cons, List.flatMap_nil, List.drop_zero, List.drop_succ_cons, List.drop_nil, List.take_succ_cons, List.take_zero, List.take_nil, List.contains_cons, List.contains_nil, Bool.or_false, Bool.or_true, Bool.true_or, Bool.false_or, Bool.and_true, Bool.and_false, Bool.not_true, Bool.not_false, beq_self_eq_true, Nat.reduceAdd, Nat.reduceSub, Nat.reduceLeDiff, Nat.reduceLT, Nat.reduceEqDiff, Nat.reduceBEq, Int.reduceToNat, ↓reduceIte, reduceIte, Bool.false_eq_true, ne_true_f, pow10_18, pow10_10, pow10_11, pow10_6, decide_eq_true_eq, and_self, and_true, true_and, Nat.zero_le, Option.map_some, Option.map_none, Option.bind_some, Int.reduceLT, Int.reduceLE, Int.reduceNeg, decide_true, decide_false, ixN_0, ixN_1, ixN_2, ixN_3, ixN_m1, atI_1, atI_2, atI_3, eq_self, Option.some.injEq, false_and, atI_0, Nat.zero_add, Nat.add_zero, sRaise, sRaise0, sTryO, noEx, fAny, fAll, blsL, compL, wipeD, CT.set, eComp, eCompN, lstOk, fSum, fTuple, fList, sAug, pAddI, pSubI, pIn, pNotIn, inB, MP.iZip, iEnumA, fSortP, fSortSet, eSl, partD, zipD_ints, pairsL_map, eBm, mAppend, List.any_cons, List.any_nil, List.all_cons, List.all_nil, id, List.length_append, List.zip_cons_cons, List.zip_nil_left, List.reverse_cons, List.reverse_nil, eqb_int, eqb_str, eqb_bl, kc0, kc1, kc2, kc3, kc4, kc5, kc6, kc7, kc8, kc9, kc10, kc11, kc12, kc13, kc14, kc15, kc16, kc17, kc18, kc19, kc20, Int.reduceBEq, Int.reduceMul, Int.reduceSub, Pool_get_kept, Pool_set_kept, Pool_put_0, Pool_no_stretches, Pool_no___len__, Pool_no_has, Pool_no_number_at, Pool_no_place_of, Pool_no_first_from, Pool_no_joined, Pool_no_met, Pool_no_without, Pool_no_dealt, Pool_no___eq__, Pool_no___str__, Pool_no___repr__, f_Pool_first_from, b_Pool_first_from, P, e, optD]

theorem pow10_12 (h : AH) : pPow h (.int 10) (.int 12) = some (.int 1000000000000) := by
  rw [pPow_ok (by decide) (by decide)]
  rfl
theorem good_fw {ps : List PRow} (g : Good ps) : Good (fw ps) := fun p hp => by
  have c := fw_canon g.val
  have hv := c.2 p hp
  obtain ⟨q, hq, a1, a2⟩ := (fw_has g.val p.1).mp ⟨p, hp, Int.le_refl _, hv⟩
  obtain ⟨r, hr, b1, b2⟩ := (fw_has g.val p.2).mp ⟨p, hp, hv, Int.le_refl _⟩
  have := g q hq
  have := g r hr
  omega
theorem low_far {b : Nat} {k : Int} {h : AH} (B : Bag h b k) (K1 : k < 10000000) : ∃ r2 k2 sg r3 k3 wd r4 k4, f_take [.ref b, .int 2] h = .ok (.int r2) k2 ∧ atI [D.int 1, .int (-1)] r2 = some (.int sg) ∧ f_take [.ref b, .int 3] k2 = .ok (.int r3) k3 ∧
    atI [D.int 10, .int 1000000, .int 1000000000000] r3 = some (.int wd) ∧ f_take [.ref b, .int wd] k3 = .ok (.int r4) k4 ∧ (∀ h, pMul h (.int sg) (.int r4) = some (.int (sg * r4))) ∧ -1000000000000 ≤ sg * r4 ∧ sg * r4 ≤ 1000000000000 ∧ Bag k4 b (k + 3) ∧ But b h k4 := by
  obtain ⟨r2, k2, t2, u2, v2, B2, D2⟩ := take_ok B (n := 2) (by omega) (by decide) (by decide)
  obtain ⟨sg, e2, z2⟩ := menu2i 1 (-1) u2 v2
  obtain ⟨r3, k3, t3, u3, v3, B3, D3⟩ := take_ok B2 (n := 3) (by omega) (by decide) (by decide)
  obtain ⟨wd, e3, z3⟩ := menu3i 10 1000000 1000000000000 u3 v3
  obtain ⟨r4, k4, t4, u4, v4, B4, D4⟩ := take_ok B3 (n := wd) (by omega) (by omega) (by omega)
  exact ⟨r2, k2, sg, r3, k3, wd, r4, k4, t2, e2, t3, e3, t4, fun h => pMul_ok (by omega), by rcases z2 with rfl | rfl <;> omega, by rcases z2 with rfl | rfl <;> omega, B4.mono (by omega), (D2.trans D3).trans D4⟩
theorem low_ok {b : Nat} {m : List PRow} {k : Int} {h : AH} (B : Bag h b k) (K1 : k < 1000000) (g : Good m) (hl : m.length ≤ 20) :
    ∃ lo h', f_law_low [.ref b, .tup (m.map tupP)] h = .ok (.int lo) h' ∧ -1000000000000 ≤ lo ∧ lo ≤ 1000000000000 ∧ Bag h' b (k + 10) ∧ But b h h' := by
  have ne := eqb_nilT (h := h) (ps := m)
  by_cases hm : m = []
  · subst hm
    obtain ⟨r2, k2, sg, r3, k3, wd, r4, k4, t2, e2, t3, e3, t4, mm, l0, l1, B4, D4⟩ := low_far B (by omega)
    refine ⟨sg * r4, k4, ?_, l0, l1, B4.mono (by omega), D4⟩
    have ne' : pEqB h (.tup []) (.tup []) = some true := ne
    simp (disch := omega) only [fnM, eVar, eC, eBin, eUn, aNil, aCons, eTup, eLst, eLstN, eFn, eIf, eFld, eCall, eMeth, eMake, insOf, tst, tstB, MP.tAnd, MP.tOr, MP.tNot, eAnd, eOr, eNot, eChain, truth, optR, Res.bind, Res.bindS, sNil, sSeq, sExp, sRet, sRetN, sIf, sAsg, sSet, sPar, MP.sFld, MP.sFldAug, sFor, nxO, gNm, gFld, gIx, setIx, setFld, gsNil, gsCons, gTp, gLs, MP.iRng1, MP.iRng2, iSeq, iLst, MP.iTup, seqL, seqM, seqT, seqX, eIsi, tyName, isi_ii, isi_ib, isi_bi, isi_bb, isi_ni, isi_si, isi_ss, isi_is, isi_tt, isi_ti, isi_li, pAdd, pSub, pMul_ok, pDiv_ok, pMod_ok, pNeg, pLt, pLe, pGt, pGe, pEq, pNe, sEq, pIs, pIsNot, MP.isNon, pIx, fAbs, fMax2, fMin2, fInt, fLen, gSel, pick, AH.put_g, AH.put_n, AH.new_g, AH.new_n, AH.put_same, AH.new_same, AH.put_put, AH.new_put, List.length_cons, List.length_nil, List.map_cons, List.map_nil, List.cons_append, List.nil_append, List.append_nil, List.replicate, List.getElem?_cons_zero, List.getElem?_cons_succ, List.getElem?_nil, List.set_cons_zero, List.set_cons_succ, List.flatMap_cons, List.flatMap_nil, List.drop_zero, List.drop_succ_cons, List.drop_nil, List.take_succ_cons, List.take_zero, List.take_nil, List.contains_cons, List.contains_nil, Bool.or_false, Bool.or_true, Bool.true_or, Bool.false_or, Bool.and_true, Bool.and_false, Bool.not_true, Bool.not_false, beq_self_eq_true, Nat.reduceAdd, Nat.reduceSub, Nat.reduceLeDiff, Nat.reduceLT, Nat.reduceEqDiff, Nat.reduceBEq, Int.reduceToNat, ↓reduceIte, reduceIte, Bool.false_eq_true, ne_true_f, pow10_18, pow10_10, pow10_11, pow10_6, decide_eq_true_eq, and_self, and_true, true_and, Nat.zero_le, Option.map_some, Option.map_none, Option.bind_some, Int.reduceLT, Int.reduceLE, Int.reduceNeg, decide_true, decide_false, ixN_0, ixN_1, ixN_2, ixN_3, ixN_m1, atI_1, atI_2, atI_3, eq_self, Option.some.injEq, false_and, atI_0, Nat.zero_add, Nat.add_zero, sRaise, sRaise0, sTryO, noEx, fAny, fAll, blsL, compL, wipeD, CT.set, eComp, eCompN, lstOk, fSum, fTuple, fList, sAug, pAddI, pSubI, pIn, pNotIn, inB, MP.iZip, iEnumA, fSortP, fSortSet, eSl, partD, zipD_ints, pairsL_map, eBm, mAppend, List.any_cons, List.any_nil, List.all_cons, List.all_nil, id, List.length_append, List.zip_cons_cons, List.zip_nil_left, List.reverse_cons, List.reverse_nil, eqb_int, eqb_str, eqb_bl, kc0, kc1, kc2, kc3, kc4, kc5, kc6, kc7, kc8, kc9, kc10, kc11, kc12, kc13, kc14, kc15, kc16, kc17, kc18, kc19, kc20, Int.reduceBEq, Int.reduceMul, Int.reduceSub, Pool_get_kept, Pool_set_kept, Pool_put_0, Pool_no_stretches, Pool_no___len__, Pool_no_has, Pool_no_number_at, Pool_no_place_of, Pool_no_first_from, Pool_no_joined, Pool_no_met, Pool_no_without, Pool_no_dealt, Pool_no___eq__, Pool_no___str__, Pool_no___repr__, f_law_low, b_law_low, ne', e_take, t2, e2, t3, e3, t4, mm, pow10_12]
  · have em : m.isEmpty = false := by simpa using hm
    have hpos : 0 < m.length := List.length_pos_iff.mpr hm
    obtain ⟨r1, k1, t1, u1, v1, B1, D1⟩ := take_ok B (n := 3) (by omega) (by decide) (by decide)
    by_cases hr : 0 < r1
    · obtain ⟨r2, k2, t2, u2, v2, B2, D2⟩ := take_ok B1 (n := (m.length : Int)) (by omega) (by omega) (by omega)
      obtain ⟨j, rfl⟩ : ∃ j : Nat, r2 = j := ⟨r2.toNat, by omega⟩
      have hj : j < m.length := by omega
      have a1 : atI (m.map tupP) (j : Int) = some (.tup [.int m[j].1, .int m[j].2]) := atI_get (by rw [List.getElem?_map, List.getElem?_eq_getElem hj]; rfl)
      have gj := g m[j] (List.getElem_mem hj)
      obtain ⟨r3, k3, t3, u3, v3, B3, D3⟩ := take_ok B2 (n := 2) (by omega) (by decide) (by decide)
      obtain ⟨v, e3, z3⟩ := menu2i m[j].1 m[j].2 u3 v3
      obtain ⟨r4, k4, t4, u4, v4, B4, D4⟩ := take_ok B3 (n := 5) (by omega) (by decide) (by decide)
      refine ⟨v + r4 - 2, k4, ?_, by omega, by omega, B4.mono (by omega), ((D1.trans D2).trans D3).trans D4⟩
      simp (disch := omega) only [fnM, eVar, eC, eBin, eUn, aNil, aCons, eTup, eLst, eLstN, eFn, eIf, eFld, eCall, eMeth, eMake, insOf, tst, tstB, MP.tAnd, MP.tOr, MP.tNot, eAnd, eOr, eNot, eChain, truth, optR, Res.bind, Res.bindS, sNil, sSeq, sExp, sRet, sRetN, sIf, sAsg, sSet, sPar, MP.sFld, MP.sFldAug, sFor, nxO, gNm, gFld, gIx, setIx, setFld, gsNil, gsCons, gTp, gLs, MP.iRng1, MP.iRng2, iSeq, iLst, MP.iTup, seqL, seqM, seqT, seqX, eIsi, tyName, isi_ii, isi_ib, isi_bi, isi_bb, isi_ni, isi_si, isi_ss, isi_is, isi_tt, isi_ti, isi_li, pAdd, pSub, pMul_ok, pDiv_ok, pMod_ok, pNeg, pLt, pLe, pGt, pGe, pEq, pNe, sEq, pIs, pIsNot, MP.isNon, pIx, fAbs, fMax2, fMin2, fInt, fLen, gSel, pick, AH.put_g, AH.put_n, AH.new_g, AH.new_n, AH.put_same, AH.new_same, AH.put_put, AH.new_put, List.length_cons, List.length_nil, List.map_cons, List.map_nil, List.cons_append, List.nil_append, List.append_nil, List.replicate, List.getElem?_cons_zero, List.getElem?_cons_succ, List.getElem?_nil, List.set_cons_zero, List.set_cons_succ, List.flatMap_cons, List.flatMap_nil, List.drop_zero, List.drop_succ_cons, List.drop_nil, List.take_succ_cons, List.take_zero, List.take_nil, List.contains_cons, List.contains_nil, Bool.or_false, Bool.or_true, Bool.true_or, Bool.false_or, Bool.and_true, Bool.and_false, Bool.not_true, Bool.not_false, beq_self_eq_true, Nat.reduceAdd, Nat.reduceSub, Nat.reduceLeDiff, Nat.reduceLT, Nat.reduceEqDiff, Nat.reduceBEq, Int.reduceToNat, ↓reduceIte, reduceIte, Bool.false_eq_true, ne_true_f, pow10_18, pow10_10, pow10_11, pow10_6, decide_eq_true_eq, and_self, and_true, true_and, Nat.zero_le, Option.map_some, Option.map_none, Option.bind_some, Int.reduceLT, Int.reduceLE, Int.reduceNeg, decide_true, decide_false, ixN_0, ixN_1, ixN_2, ixN_3, ixN_m1, atI_1, atI_2, atI_3, eq_self, Option.some.injEq, false_and, atI_0, Nat.zero_add, Nat.add_zero, sRaise, sRaise0, sTryO, noEx, fAny, fAll, blsL, compL, wipeD, CT.set, eComp, eCompN, lstOk, fSum, fTuple, fList, sAug, pAddI, pSubI, pIn, pNotIn, inB, MP.iZip, iEnumA, fSortP, fSortSet, eSl, partD, zipD_ints, pairsL_map, eBm, mAppend, List.any_cons, List.any_nil, List.all_cons, List.all_nil, id, List.length_append, List.zip_cons_cons, List.zip_nil_left, List.reverse_cons, List.reverse_nil, eqb_int, eqb_str, eqb_bl, kc0, kc1, kc2, kc3, kc4, kc5, kc6, kc7, kc8, kc9, kc10, kc11, kc12, kc13, kc14, kc15, kc16, kc17, kc18, kc19, kc20, Int.reduceBEq, Int.reduceMul, Int.reduceSub, Pool_get_kept, Pool_set_kept, Pool_put_0, Pool_no_stretches, Pool_no___len__, Pool_no_has, Pool_no_number_at, Pool_no_place_of, Pool_no_first_from, Pool_no_joined, Pool_no_met, Pool_no_without, Pool_no_dealt, Pool_no___eq__, Pool_no___str__, Pool_no___repr__, f_law_low, b_law_low, ne, em, e_take, t1, hr, List.length_map, t2, a1, t3, e3, t4]
    · obtain ⟨r2, k2, sg, r3, k3, wd, r4, k4, t2, e2, t3, e3, t4, mm, l0, l1, B4, D4⟩ := low_far B1 (by omega)
      refine ⟨sg * r4, k4, ?_, l0, l1, B4.mono (by omega), D1.trans D4⟩
      simp (disch := omega) only [fnM, eVar, eC, eBin, eUn, aNil, aCons, eTup, eLst, eLstN, eFn, eIf, eFld, eCall, eMeth, eMake, insOf, tst, tstB, MP.tAnd, MP.tOr, MP.tNot, eAnd, eOr, eNot, eChain, truth, optR, Res.bind, Res.bindS, sNil, sSeq, sExp, sRet, sRetN, sIf, sAsg, sSet, sPar, MP.sFld, MP.sFldAug, sFor, nxO, gNm, gFld, gIx, setIx, setFld, gsNil, gsCons, gTp, gLs, MP.iRng1, MP.iRng2, iSeq, iLst, MP.iTup, seqL, seqM, seqT, seqX, eIsi, tyName, isi_ii, isi_ib, isi_bi, isi_bb, isi_ni, isi_si, isi_ss, isi_is, isi_tt, isi_ti, isi_li, pAdd, pSub, pMul_ok, pDiv_ok, pMod_ok, pNeg, pLt, pLe, pGt, pGe, pEq, pNe, sEq, pIs, pIsNot, MP.isNon, pIx, fAbs, fMax2, fMin2, fInt, fLen, gSel, pick, AH.put_g, AH.put_n, AH.new_g, AH.new_n, AH.put_same, AH.new_same, AH.put_put, AH.new_put, List.length_cons, List.length_nil, List.map_cons, List.map_nil, List.cons_append, List.nil_append, List.append_nil, List.replicate, List.getElem?_cons_zero, List.getElem?_cons_succ, List.getElem?_nil, List.set_cons_zero, List.set_cons_succ, List.flatMap_cons, List.flatMap_nil, List.drop_zero, List.drop_succ_cons, List.drop_nil, List.take_succ_cons, List.take_zero, List.take_nil, List.contains_cons, List.contains_nil, Bool.or_false, Bool.or_true, Bool.true_or, Bool.false_or, Bool.and_true, Bool.and_false, Bool.not_true, Bool.not_false, beq_self_eq_true, Nat.reduceAdd, Nat.reduceSub, Nat.reduceLeDiff, Nat.reduceLT, Nat.reduceEqDiff, Nat.reduceBEq, Int.reduceToNat, ↓reduceIte, reduceIte, Bool.false_eq_true, ne_true_f, pow10_18, pow10_10, pow10_11, pow10_6, decide_eq_true_eq, and_self, and_true, true_and, Nat.zero_le, Option.map_some, Option.map_none, Option.bind_some, Int.reduceLT, Int.reduceLE, Int.reduceNeg, decide_true, decide_false, ixN_0, ixN_1, ixN_2, ixN_3, ixN_m1, atI_1, atI_2, atI_3, eq_self, Option.some.injEq, false_and, atI_0, Nat.zero_add, Nat.add_zero, sRaise, sRaise0, sTryO, noEx, fAny, fAll, blsL, compL, wipeD, CT.set, eComp, eCompN, lstOk, fSum, fTuple, fList, sAug, pAddI, pSubI, pIn, pNotIn, inB, MP.iZip, iEnumA, fSortP, fSortSet, eSl, partD, zipD_ints, pairsL_map, eBm, mAppend, List.any_cons, List.any_nil, List.all_cons, List.all_nil, id, List.length_append, List.zip_cons_cons, List.zip_nil_left, List.reverse_cons, List.reverse_nil, eqb_int, eqb_str, eqb_bl, kc0, kc1, kc2, kc3, kc4, kc5, kc6, kc7, kc8, kc9, kc10, kc11, kc12, kc13, kc14, kc15, kc16, kc17, kc18, kc19, kc20, Int.reduceBEq, Int.reduceMul, Int.reduceSub, Pool_get_kept, Pool_set_kept, Pool_put_0, Pool_no_stretches, Pool_no___len__, Pool_no_has, Pool_no_number_at, Pool_no_place_of, Pool_no_first_from, Pool_no_joined, Pool_no_met, Pool_no_without, Pool_no_dealt, Pool_no___eq__, Pool_no___str__, Pool_no___repr__, f_law_low, b_law_low, ne, em, e_take, t1, hr, t2, e2, t3, e3, t4, mm, pow10_12]

def Ins (h : AH) (f : Nat) (bs : List Int) : Prop := h.g f = some (.lst (bs.map .int))
structure St2 (b f : Nat) (m : List PRow) (lo K : Int) (h0 : AH) (i : Int) (s : Sl) (h : AH) : Prop where
  e : ∃ hr x5 x6, s = [some (.ref b), some (.tup (m.map tupP)), some (.int lo), some (.ref f), some (.int hr), x5, x6] ∧ -1000000000000 ≤ hr ∧ hr ≤ 1000000000000
  r : ∃ bs, Ins h f bs ∧ (bs.length : Int) ≤ i
  B : Bag h b (K + 4 * i)
  n : h.n = h0.n
  g : ∀ k, k ≠ b → k ≠ f → h.g k = h0.g k
theorem st2_ok {b f : Nat} {m : List PRow} {lo K i : Int} {h0 : AH} {s : Sl} {h : AH} (hf : f ≠ b) (g : Good m) (l0 : -1000000000000 ≤ lo) (l1 : lo ≤ 1000000000000) (i0 : 0 ≤ i) (i1 : i < 1000) (K1 : K < 10000000) (S : St2 b f m lo K h0 i s h) :
    ∃ s1 h1 s2 h2, gNm 5 (.int i) s h = some (s1, h1) ∧ (L_law_but_1 s1 h1 = .nx s2 h2 ∨ L_law_but_1 s1 h1 = .ct s2 h2) ∧ St2 b f m lo K h0 (i + 1) s2 h2 := by
  obtain ⟨⟨hr, x5, x6, rfl, c0, c1⟩, ⟨bs, R, al⟩, B, hn, hg⟩ := S
  have LF : f_law_first [.tup (m.map tupP), .int hr, .tup []] h = .ok (optD (firstR [] hr m)) h := lawfirst_ok (bs := []) (by decide) (by omega) (by omega) g
  have hlt : (bs.map D.int).length < 100000 := by rw [List.length_map]; omega
  have ap : ∀ a : Int, bs.map D.int ++ [.int a] = (bs ++ [a]).map D.int := fun a => by rw [List.map_append]; rfl
  -- behind the number: it is put behind, and the next place
  have fin : ∀ (nm : Int) (k2 : AH), 0 ≤ nm → nm ≤ 999999 → But b h k2 → Bag k2 b (K + 4 * i + 2) → (∀ r k3, f_take [.ref b, .int 12] (k2.put f (.lst ((bs ++ [nm]).map D.int))) = .ok (.int r) k3 → k2.g f = some (.lst (bs.map D.int)) →
        L_law_but_1 [some (.ref b), some (.tup (m.map tupP)), some (.int lo), some (.ref f), some (.int hr), some (.int i), x6] h = .nx [some (.ref b), some (.tup (m.map tupP)), some (.int lo), some (.ref f), some (.int (if 0 < r then nm + 1 else lo)), some (.int i), some (.int nm)] k3) →
      ∃ s1 h1 s2 h2, gNm 5 (.int i) [some (.ref b), some (.tup (m.map tupP)), some (.int lo), some (.ref f), some (.int hr), x5, x6] h = some (s1, h1) ∧ (L_law_but_1 s1 h1 = .nx s2 h2 ∨ L_law_but_1 s1 h1 = .ct s2 h2) ∧ St2 b f m lo K h0 (i + 1) s2 h2 := by
    intro nm k2 n0 n1 D2 B2 run
    have B2' : Bag (k2.put f (.lst ((bs ++ [nm]).map D.int))) b (K + 4 * i + 2) := B2.keep (AH.put_ne hf.symm)
    obtain ⟨r, k3, t3, u3, v3, B3, D3⟩ := take_ok B2' (n := 12) (by omega) (by decide) (by decide)
    have R3 : Ins k3 f (bs ++ [nm]) := (D3.g f hf).trans (AH.put_same ..)
    refine ⟨_, _, _, _, rfl, .inl (run r k3 t3 ((D2.g f hf).trans R)), ⟨⟨_, _, _, rfl, by split <;> omega, by split <;> omega⟩, ⟨_, R3, by rw [List.length_append, List.length_singleton]; omega⟩, B3.mono (by omega), ?_, fun k hk hk2 => ?_⟩⟩
    · rw [D3.n, AH.put_n, D2.n, hn]
    · rw [D3.g k hk, AH.put_ne hk2, D2.g k hk, hg k hk hk2]
  cases q : firstR [] hr m with
  | none =>
    rw [q] at LF
    obtain ⟨r1, k1, t1, u1, v1, B1, D1⟩ := take_ok B (n := 1000000) (by omega) (by decide) (by decide)
    refine fin r1 k1 u1 (by omega) D1 (B1.mono (by omega)) fun r k3 t3 R1 => ?_
    rw [← ap] at t3
    by_cases hr2 : 0 < r
    · simp (disch := omega) only [fnM, eVar, eC, eBin, eUn, aNil, aCons, eTup, eLst, eLstN, eFn, eIf, eFld, eCall, eMeth, eMake, insOf, tst, tstB, MP.tAnd, MP.tOr, MP.tNot, eAnd, eOr, eNot, eChain, truth, optR, Res.bind, Res.bindS, sNil, sSeq, sExp, sRet, sRetN, sIf, sAsg, sSet, sPar, MP.sFld, MP.sFldAug, sFor, nxO, gNm, gFld, gIx, setIx, setFld, gsNil, gsCons, gTp, gLs, MP.iRng1, MP.iRng2, iSeq, iLst, MP.iTup, seqL, seqM, seqT, seqX, eIsi, tyName, isi_ii, isi_ib, isi_bi, isi_bb, isi_ni, isi_si, isi_ss, isi_is, isi_tt, isi_ti, isi_li, pAdd, pSub, pMul_ok, pDiv_ok, pMod_ok, pNeg, pLt, pLe, pGt, pGe, pEq, pNe, pEqB, sEq, pIs, pIsNot, MP.isNon, pIx, fAbs, fMax2, fMin2, fInt, fLen, gSel, pick, AH.put_g, AH.put_n, AH.new_g, AH.new_n, AH.put_same, AH.new_same, AH.put_put, AH.new_put, List.length_cons, List.length_nil, List.map_cons, List.map_nil, List.cons_append, List.nil_append, List.append_nil, List.replicate, List.getElem?_cons_zero, List.getElem?_cons_succ, List.getElem?_nil, List.set_cons_zero, List.set_cons_succ, List.flatMap_cons, List.flatMap_nil, List.drop_zero, List.drop_succ_cons, List.drop_nil, List.take_succ_cons, List.take_zero, List.take_nil, List.contains_cons, List.contains_nil, Bool.or_false, Bool.or_true, Bool.true_or, Bool.false_or, Bool.and_true, Bool.and_false, Bool.not_true, Bool.not_false, beq_self_eq_true, Nat.reduceAdd, Nat.reduceSub, Nat.reduceLeDiff, Nat.reduceLT, Nat.reduceEqDiff, Nat.reduceBEq, Int.reduceToNat, ↓reduceIte, reduceIte, Bool.false_eq_true, ne_true_f, pow10_18, pow10_10, pow10_11, pow10_6, decide_eq_true_eq, and_self, and_true, true_and, Nat.zero_le, Option.map_some, Option.map_none, Option.bind_some, Int.reduceLT, Int.reduceLE, Int.reduceNeg, decide_true, decide_false, ixN_0, ixN_1, ixN_2, ixN_3, ixN_m1, atI_1, atI_2, atI_3, eq_self, Option.some.injEq, false_and, atI_0, Nat.zero_add, Nat.add_zero, sRaise, sRaise0, sTryO, noEx, fAny, fAll, blsL, compL, wipeD, CT.set, eComp, eCompN, lstOk, fSum, fTuple, fList, sAug, pAddI, pSubI, pIn, pNotIn, inB, MP.iZip, iEnumA, fSortP, fSortSet, eSl, partD, zipD_ints, pairsL_map, eBm, mAppend, List.any_cons, List.any_nil, List.all_cons, List.all_nil, id, List.length_append, List.zip_cons_cons, List.zip_nil_left, List.reverse_cons, List.reverse_nil, eqb_int, eqb_str, eqb_bl, kc0, kc1, kc2, kc3, kc4, kc5, kc6, kc7, kc8, kc9, kc10, kc11, kc12, kc13, kc14, kc15, kc16, kc17, kc18, kc19, kc20, Int.reduceBEq, Int.reduceMul, Int.reduceSub, Pool_get_kept, Pool_set_kept, Pool_put_0, Pool_no_stretches, Pool_no___len__, Pool_no_has, Pool_no_number_at, Pool_no_place_of, Pool_no_first_from, Pool_no_joined, Pool_no_met, Pool_no_without, Pool_no_dealt, Pool_no___eq__, Pool_no___str__, Pool_no___repr__, L_law_but_1, LF, optD, e_take, t1, pow10_6, R1, hlt, t3, hr2]
    · simp (disch := omega) only [fnM, eVar, eC, eBin, eUn, aNil, aCons, eTup, eLst, eLstN, eFn, eIf, eFld, eCall, eMeth, eMake, insOf, tst, tstB, MP.tAnd, MP.tOr, MP.tNot, eAnd, eOr, eNot, eChain, truth, optR, Res.bind, Res.bindS, sNil, sSeq, sExp, sRet, sRetN, sIf, sAsg, sSet, sPar, MP.sFld, MP.sFldAug, sFor, nxO, gNm, gFld, gIx, setIx, setFld, gsNil, gsCons, gTp, gLs, MP.iRng1, MP.iRng2, iSeq, iLst, MP.iTup, seqL, seqM, seqT, seqX, eIsi, tyName, isi_ii, isi_ib, isi_bi, isi_bb, isi_ni, isi_si, isi_ss, isi_is, isi_tt, isi_ti, isi_li, pAdd, pSub, pMul_ok, pDiv_ok, pMod_ok, pNeg, pLt, pLe, pGt, pGe, pEq, pNe, pEqB, sEq, pIs, pIsNot, MP.isNon, pIx, fAbs, fMax2, fMin2, fInt, fLen, gSel, pick, AH.put_g, AH.put_n, AH.new_g, AH.new_n, AH.put_same, AH.new_same, AH.put_put, AH.new_put, List.length_cons, List.length_nil, List.map_cons, List.map_nil, List.cons_append, List.nil_append, List.append_nil, List.replicate, List.getElem?_cons_zero, List.getElem?_cons_succ, List.getElem?_nil, List.set_cons_zero, List.set_cons_succ, List.flatMap_cons, List.flatMap_nil, List.drop_zero, List.drop_succ_cons, List.drop_nil, List.take_succ_cons, List.take_zero, List.take_nil, List.contains_cons, List.contains_nil, Bool.or_false, Bool.or_true, Bool.true_or, Bool.false_or, Bool.and_true, Bool.and_false, Bool.not_true, Bool.not_false, beq_self_eq_true, Nat.reduceAdd, Nat.reduceSub, Nat.reduceLeDiff, Nat.reduceLT, Nat.reduceEqDiff, Nat.reduceBEq, Int.reduceToNat, ↓reduceIte, reduceIte, Bool.false_eq_true, ne_true_f, pow10_18, pow10_10, pow10_11, pow10_6, decide_eq_true_eq, and_self, and_true, true_and, Nat.zero_le, Option.map_some, Option.map_none, Option.bind_some, Int.reduceLT, Int.reduceLE, Int.reduceNeg, decide_true, decide_false, ixN_0, ixN_1, ixN_2, ixN_3, ixN_m1, atI_1, atI_2, atI_3, eq_self, Option.some.injEq, false_and, atI_0, Nat.zero_add, Nat.add_zero, sRaise, sRaise0, sTryO, noEx, fAny, fAll, blsL, compL, wipeD, CT.set, eComp, eCompN, lstOk, fSum, fTuple, fList, sAug, pAddI, pSubI, pIn, pNotIn, inB, MP.iZip, iEnumA, fSortP, fSortSet, eSl, partD, zipD_ints, pairsL_map, eBm, mAppend, List.any_cons, List.any_nil, List.all_cons, List.all_nil, id, List.length_append, List.zip_cons_cons, List.zip_nil_left, List.reverse_cons, List.reverse_nil, eqb_int, eqb_str, eqb_bl, kc0, kc1, kc2, kc3, kc4, kc5, kc6, kc7, kc8, kc9, kc10, kc11, kc12, kc13, kc14, kc15, kc16, kc17, kc18, kc19, kc20, Int.reduceBEq, Int.reduceMul, Int.reduceSub, Pool_get_kept, Pool_set_kept, Pool_put_0, Pool_no_stretches, Pool_no___len__, Pool_no_has, Pool_no_number_at, Pool_no_place_of, Pool_no_first_from, Pool_no_joined, Pool_no_met, Pool_no_without, Pool_no_dealt, Pool_no___eq__, Pool_no___str__, Pool_no___repr__, L_law_but_1, LF, optD, e_take, t1, pow10_6, R1, hlt, t3, hr2]
  | some x =>
    rw [q] at LF
    have hx := firstR_le g q
    obtain ⟨r1, k1, t1, u1, v1, B1, D1⟩ := take_ok B (n := 9) (by omega) (by decide) (by decide)
    by_cases hr1 : r1 = 0
    · subst hr1
      obtain ⟨r2, k2, t2, u2, v2, B2, D2⟩ := take_ok B1 (n := 1000000) (by omega) (by decide) (by decide)
      refine fin r2 k2 u2 (by omega) (D1.trans D2) (B2.mono (by omega)) fun r k3 t3 R1 => ?_
      rw [← ap] at t3
      by_cases hr2 : 0 < r
      · simp (disch := omega) only [fnM, eVar, eC, eBin, eUn, aNil, aCons, eTup, eLst, eLstN, eFn, eIf, eFld, eCall, eMeth, eMake, insOf, tst, tstB, MP.tAnd, MP.tOr, MP.tNot, eAnd, eOr, eNot, eChain, truth, optR, Res.bind, Res.bindS, sNil, sSeq, sExp, sRet, sRetN, sIf, sAsg, sSet, sPar, MP.sFld, MP.sFldAug, sFor, nxO, gNm, gFld, gIx, setIx, setFld, gsNil, gsCons, gTp, gLs, MP.iRng1, MP.iRng2, iSeq, iLst, MP.iTup, seqL, seqM, seqT, seqX, eIsi, tyName, isi_ii, isi_ib, isi_bi, isi_bb, isi_ni, isi_si, isi_ss, isi_is, isi_tt, isi_ti, isi_li, pAdd, pSub, pMul_ok, pDiv_ok, pMod_ok, pNeg, pLt, pLe, pGt, pGe, pEq, pNe, pEqB, sEq, pIs, pIsNot, MP.isNon, pIx, fAbs, fMax2, fMin2, fInt, fLen, gSel, pick, AH.put_g, AH.put_n, AH.new_g, AH.new_n, AH.put_same, AH.new_same, AH.put_put, AH.new_put, List.length_cons, List.length_nil, List.map_cons, List.map_nil, List.cons_append, List.nil_append, List.append_nil, List.replicate, List.getElem?_cons_zero, List.getElem?_cons_succ, List.getElem?_nil, List.set_cons_zero, List.set_cons_succ, List.flatMap_cons, List.flatMap_nil, List.drop_zero, List.drop_succ_cons, List.drop_nil, List.take_succ_cons, List.take_zero, List.take_nil, List.contains_cons, List.contains_nil, Bool.or_false, Bool.or_true, Bool.true_or, Bool.false_or, Bool.and_true, Bool.and_false, Bool.not_true, Bool.not_false, beq_self_eq_true, Nat.reduceAdd, Nat.reduceSub, Nat.reduceLeDiff, Nat.reduceLT, Nat.reduceEqDiff, Nat.reduceBEq, Int.reduceToNat, ↓reduceIte, reduceIte, Bool.false_eq_true, ne_true_f, pow10_18, pow10_10, pow10_11, pow10_6, decide_eq_true_eq, and_self, and_true, true_and, Nat.zero_le, Option.map_some, Option.map_none, Option.bind_some, Int.reduceLT, Int.reduceLE, Int.reduceNeg, decide_true, decide_false, ixN_0, ixN_1, ixN_2, ixN_3, ixN_m1, atI_1, atI_2, atI_3, eq_self, Option.some.injEq, false_and, atI_0, Nat.zero_add, Nat.add_zero, sRaise, sRaise0, sTryO, noEx, fAny, fAll, blsL, compL, wipeD, CT.set, eComp, eCompN, lstOk, fSum, fTuple, fList, sAug, pAddI, pSubI, pIn, pNotIn, inB, MP.iZip, iEnumA, fSortP, fSortSet, eSl, partD, zipD_ints, pairsL_map, eBm, mAppend, List.any_cons, List.any_nil, List.all_cons, List.all_nil, id, List.length_append, List.zip_cons_cons, List.zip_nil_left, List.reverse_cons, List.reverse_nil, eqb_int, eqb_str, eqb_bl, kc0, kc1, kc2, kc3, kc4, kc5, kc6, kc7, kc8, kc9, kc10, kc11, kc12, kc13, kc14, kc15, kc16, kc17, kc18, kc19, kc20, Int.reduceBEq, Int.reduceMul, Int.reduceSub, Pool_get_kept, Pool_set_kept, Pool_put_0, Pool_no_stretches, Pool_no___len__, Pool_no_has, Pool_no_number_at, Pool_no_place_of, Pool_no_first_from, Pool_no_joined, Pool_no_met, Pool_no_without, Pool_no_dealt, Pool_no___eq__, Pool_no___str__, Pool_no___repr__, L_law_but_1, LF, optD, e_take, t1, t2, pow10_6, R1, hlt, t3, hr2]
      · simp (disch := omega) only [fnM, eVar, eC, eBin, eUn, aNil, aCons, eTup, eLst, eLstN, eFn, eIf, eFld, eCall, eMeth, eMake, insOf, tst, tstB, MP.tAnd, MP.tOr, MP.tNot, eAnd, eOr, eNot, eChain, truth, optR, Res.bind, Res.bindS, sNil, sSeq, sExp, sRet, sRetN, sIf, sAsg, sSet, sPar, MP.sFld, MP.sFldAug, sFor, nxO, gNm, gFld, gIx, setIx, setFld, gsNil, gsCons, gTp, gLs, MP.iRng1, MP.iRng2, iSeq, iLst, MP.iTup, seqL, seqM, seqT, seqX, eIsi, tyName, isi_ii, isi_ib, isi_bi, isi_bb, isi_ni, isi_si, isi_ss, isi_is, isi_tt, isi_ti, isi_li, pAdd, pSub, pMul_ok, pDiv_ok, pMod_ok, pNeg, pLt, pLe, pGt, pGe, pEq, pNe, pEqB, sEq, pIs, pIsNot, MP.isNon, pIx, fAbs, fMax2, fMin2, fInt, fLen, gSel, pick, AH.put_g, AH.put_n, AH.new_g, AH.new_n, AH.put_same, AH.new_same, AH.put_put, AH.new_put, List.length_cons, List.length_nil, List.map_cons, List.map_nil, List.cons_append, List.nil_append, List.append_nil, List.replicate, List.getElem?_cons_zero, List.getElem?_cons_succ, List.getElem?_nil, List.set_cons_zero, List.set_cons_succ, List.flatMap_cons, List.flatMap_nil, List.drop_zero, List.drop_succ_cons, List.drop_nil, List.take_succ_cons, List.take_zero, List.take_nil, List.contains_cons, List.contains_nil, Bool.or_false, Bool.or_true, Bool.true_or, Bool.false_or, Bool.and_true, Bool.and_false, Bool.not_true, Bool.not_false, beq_self_eq_true, Nat.reduceAdd, Nat.reduceSub, Nat.reduceLeDiff, Nat.reduceLT, Nat.reduceEqDiff, Nat.reduceBEq, Int.reduceToNat, ↓reduceIte, reduceIte, Bool.false_eq_true, ne_true_f, pow10_18, pow10_10, pow10_11, pow10_6, decide_eq_true_eq, and_self, and_true, true_and, Nat.zero_le, Option.map_some, Option.map_none, Option.bind_some, Int.reduceLT, Int.reduceLE, Int.reduceNeg, decide_true, decide_false, ixN_0, ixN_1, ixN_2, ixN_3, ixN_m1, atI_1, atI_2, atI_3, eq_self, Option.some.injEq, false_and, atI_0, Nat.zero_add, Nat.add_zero, sRaise, sRaise0, sTryO, noEx, fAny, fAll, blsL, compL, wipeD, CT.set, eComp, eCompN, lstOk, fSum, fTuple, fList, sAug, pAddI, pSubI, pIn, pNotIn, inB, MP.iZip, iEnumA, fSortP, fSortSet, eSl, partD, zipD_ints, pairsL_map, eBm, mAppend, List.any_cons, List.any_nil, List.all_cons, List.all_nil, id, List.length_append, List.zip_cons_cons, List.zip_nil_left, List.reverse_cons, List.reverse_nil, eqb_int, eqb_str, eqb_bl, kc0, kc1, kc2, kc3, kc4, kc5, kc6, kc7, kc8, kc9, kc10, kc11, kc12, kc13, kc14, kc15, kc16, kc17, kc18, kc19, kc20, Int.reduceBEq, Int.reduceMul, Int.reduceSub, Pool_get_kept, Pool_set_kept, Pool_put_0, Pool_no_stretches, Pool_no___len__, Pool_no_has, Pool_no_number_at, Pool_no_place_of, Pool_no_first_from, Pool_no_joined, Pool_no_met, Pool_no_without, Pool_no_dealt, Pool_no___eq__, Pool_no___str__, Pool_no___repr__, L_law_but_1, LF, optD, e_take, t1, t2, pow10_6, R1, hlt, t3, hr2]
    · have hr1' : (r1 == 0) = false := by simp [hr1]
      refine fin x k1 hx.1 hx.2 D1 (B1.mono (by omega)) fun r k3 t3 R1 => ?_
      rw [← ap] at t3
      by_cases hr2 : 0 < r
      · simp (disch := omega) only [fnM, eVar, eC, eBin, eUn, aNil, aCons, eTup, eLst, eLstN, eFn, eIf, eFld, eCall, eMeth, eMake, insOf, tst, tstB, MP.tAnd, MP.tOr, MP.tNot, eAnd, eOr, eNot, eChain, truth, optR, Res.bind, Res.bindS, sNil, sSeq, sExp, sRet, sRetN, sIf, sAsg, sSet, sPar, MP.sFld, MP.sFldAug, sFor, nxO, gNm, gFld, gIx, setIx, setFld, gsNil, gsCons, gTp, gLs, MP.iRng1, MP.iRng2, iSeq, iLst, MP.iTup, seqL, seqM, seqT, seqX, eIsi, tyName, isi_ii, isi_ib, isi_bi, isi_bb, isi_ni, isi_si, isi_ss, isi_is, isi_tt, isi_ti, isi_li, pAdd, pSub, pMul_ok, pDiv_ok, pMod_ok, pNeg, pLt, pLe, pGt, pGe, pEq, pNe, pEqB, sEq, pIs, pIsNot, MP.isNon, pIx, fAbs, fMax2, fMin2, fInt, fLen, gSel, pick, AH.put_g, AH.put_n, AH.new_g, AH.new_n, AH.put_same, AH.new_same, AH.put_put, AH.new_put, List.length_cons, List.length_nil, List.map_cons, List.map_nil, List.cons_append, List.nil_append, List.append_nil, List.replicate, List.getElem?_cons_zero, List.getElem?_cons_succ, List.getElem?_nil, List.set_cons_zero, List.set_cons_succ, List.flatMap_cons, List.flatMap_nil, List.drop_zero, List.drop_succ_cons, List.drop_nil, List.take_succ_cons, List.take_zero, List.take_nil, List.contains_cons, List.contains_nil, Bool.or_false, Bool.or_true, Bool.true_or, Bool.false_or, Bool.and_true, Bool.and_false, Bool.not_true, Bool.not_false, beq_self_eq_true, Nat.reduceAdd, Nat.reduceSub, Nat.reduceLeDiff, Nat.reduceLT, Nat.reduceEqDiff, Nat.reduceBEq, Int.reduceToNat, ↓reduceIte, reduceIte, Bool.false_eq_true, ne_true_f, pow10_18, pow10_10, pow10_11, pow10_6, decide_eq_true_eq, and_self, and_true, true_and, Nat.zero_le, Option.map_some, Option.map_none, Option.bind_some, Int.reduceLT, Int.reduceLE, Int.reduceNeg, decide_true, decide_false, ixN_0, ixN_1, ixN_2, ixN_3, ixN_m1, atI_1, atI_2, atI_3, eq_self, Option.some.injEq, false_and, atI_0, Nat.zero_add, Nat.add_zero, sRaise, sRaise0, sTryO, noEx, fAny, fAll, blsL, compL, wipeD, CT.set, eComp, eCompN, lstOk, fSum, fTuple, fList, sAug, pAddI, pSubI, pIn, pNotIn, inB, MP.iZip, iEnumA, fSortP, fSortSet, eSl, partD, zipD_ints, pairsL_map, eBm, mAppend, List.any_cons, List.any_nil, List.all_cons, List.all_nil, id, List.length_append, List.zip_cons_cons, List.zip_nil_left, List.reverse_cons, List.reverse_nil, eqb_int, eqb_str, eqb_bl, kc0, kc1, kc2, kc3, kc4, kc5, kc6, kc7, kc8, kc9, kc10, kc11, kc12, kc13, kc14, kc15, kc16, kc17, kc18, kc19, kc20, Int.reduceBEq, Int.reduceMul, Int.reduceSub, Pool_get_kept, Pool_set_kept, Pool_put_0, Pool_no_stretches, Pool_no___len__, Pool_no_has, Pool_no_number_at, Pool_no_place_of, Pool_no_first_from, Pool_no_joined, Pool_no_met, Pool_no_without, Pool_no_dealt, Pool_no___eq__, Pool_no___str__, Pool_no___repr__, L_law_but_1, LF, optD, e_take, t1, hr1', R1, hlt, t3, hr2]
      · simp (disch := omega) only [fnM, eVar, eC, eBin, eUn, aNil, aCons, eTup, eLst, eLstN, eFn, eIf, eFld, eCall, eMeth, eMake, insOf, tst, tstB, MP.tAnd, MP.tOr, MP.tNot, eAnd, eOr, eNot, eChain, truth, optR, Res.bind, Res.bindS, sNil, sSeq, sExp, sRet, sRetN, sIf, sAsg, sSet, sPar, MP.sFld, MP.sFldAug, sFor, nxO, gNm, gFld, gIx, setIx, setFld, gsNil, gsCons, gTp, gLs, MP.iRng1, MP.iRng2, iSeq, iLst, MP.iTup, seqL, seqM, seqT, seqX, eIsi, tyName, isi_ii, isi_ib, isi_bi, isi_bb, isi_ni, isi_si, isi_ss, isi_is, isi_tt, isi_ti, isi_li, pAdd, pSub, pMul_ok, pDiv_ok, pMod_ok, pNeg, pLt, pLe, pGt, pGe, pEq, pNe, pEqB, sEq, pIs, pIsNot, MP.isNon, pIx, fAbs, fMax2, fMin2, fInt, fLen, gSel, pick, AH.put_g, AH.put_n, AH.new_g, AH.new_n, AH.put_same, AH.new_same, AH.put_put, AH.new_put, List.length_cons, List.length_nil, List.map_cons, List.map_nil, List.cons_append, List.nil_append, List.append_nil, List.replicate, List.getElem?_cons_zero, List.getElem?_cons_succ, List.getElem?_nil, List.set_cons_zero, List.set_cons_succ, List.flatMap_cons, List.flatMap_nil, List.drop_zero, List.drop_succ_cons, List.drop_nil, List.take_succ_cons, List.take_zero, List.take_nil, List.contains_cons, List.contains_nil, Bool.or_false, Bool.or_true, Bool.true_or, Bool.false_or, Bool.and_true, Bool.and_false, Bool.not_true, Bool.not_false, beq_self_eq_true, Nat.reduceAdd, Nat.reduceSub, Nat.reduceLeDiff, Nat.reduceLT, Nat.reduceEqDiff, Nat.reduceBEq, Int.reduceToNat, ↓reduceIte, reduceIte, Bool.false_eq_true, ne_true_f, pow10_18, pow10_10, pow10_11, pow10_6, decide_eq_true_eq, and_self, and_true, true_and, Nat.zero_le, Option.map_some, Option.map_none, Option.bind_some, Int.reduceLT, Int.reduceLE, Int.reduceNeg, decide_true, decide_false, ixN_0, ixN_1, ixN_2, ixN_3, ixN_m1, atI_1, atI_2, atI_3, eq_self, Option.some.injEq, false_and, atI_0, Nat.zero_add, Nat.add_zero, sRaise, sRaise0, sTryO, noEx, fAny, fAll, blsL, compL, wipeD, CT.set, eComp, eCompN, lstOk, fSum, fTuple, fList, sAug, pAddI, pSubI, pIn, pNotIn, inB, MP.iZip, iEnumA, fSortP, fSortSet, eSl, partD, zipD_ints, pairsL_map, eBm, mAppend, List.any_cons, List.any_nil, List.all_cons, List.all_nil, id, List.length_append, List.zip_cons_cons, List.zip_nil_left, List.reverse_cons, List.reverse_nil, eqb_int, eqb_str, eqb_bl, kc0, kc1, kc2, kc3, kc4, kc5, kc6, kc7, kc8, kc9, kc10, kc11, kc12, kc13, kc14, kc15, kc16, kc17, kc18, kc19, kc20, Int.reduceBEq, Int.reduceMul, Int.reduceSub, Pool_get_kept, Pool_set_kept, Pool_put_0, Pool_no_stretches, Pool_no___len__, Pool_no_has, Pool_no_number_at, Pool_no_place_of, Pool_no_first_from, Pool_no_joined, Pool_no_met, Pool_no_without, Pool_no_dealt, Pool_no___eq__, Pool_no___str__, Pool_no___repr__, L_law_but_1, LF, optD, e_take, t1, hr1', R1, hlt, t3, hr2]

theorem but_ok {b : Nat} {m : List PRow} {lo K : Int} {h : AH} (B : Bag h b K) (hb : b < h.n) (K1 : K < 1000000) (g : Good m) (l0 : -1000000000000 ≤ lo) (l1 : lo ≤ 1000000000000) :
    ∃ (bs : List Int) (h' : AH), f_law_but [.ref b, .tup (m.map tupP), .int lo] h = .ok (.tup (bs.map .int)) h' ∧ bs.length ≤ 1000 ∧ Bag h' b (K + 1000) ∧ Grw b h h' := by
  have hf : h.n ≠ b := by omega
  obtain ⟨hn0, hn0e⟩ : ∃ n, n = h.n := ⟨_, rfl⟩
  have B1 : Bag (h.new (.lst [])) b K := B.keep (AH.new_ne (by omega))
  obtain ⟨r1, k1, t1, u1, v1, B1, D1⟩ := take_ok B1 (n := 3) (by omega) (by decide) (by decide)
  obtain ⟨ct, e1, z1⟩ := menu3i 2 12 101 u1 v1
  obtain ⟨r2, k2, t2, u2, v2, B2, D2⟩ := take_ok B1 (n := ct) (by omega) (by omega) (by omega)
  have D12 := D1.trans D2
  have S0 : St2 b h.n m lo (K + 2) k2 0 [some (.ref b), some (.tup (m.map tupP)), some (.int lo), some (.ref h.n), some (.int lo), none, none] k2 :=
    ⟨⟨_, _, _, rfl, l0, l1⟩, ⟨[], (D12.g _ hf).trans (AH.new_same ..), Int.le_refl _⟩, B2.mono (by omega), rfl, fun _ _ _ => rfl⟩
  obtain ⟨s', h', e, _, ⟨⟨hr, x5, x6, rfl, _, _⟩, ⟨bs, R, al⟩, B5, hn, hg⟩⟩ := forR (g := gNm 5) (b := L_law_but_1) (fun i s hh => i ≤ r2 ∧ St2 b h.n m lo (K + 2) k2 i s hh) (lo := 0) (hi := r2) u2 ⟨u2, S0⟩ (fun i s h i0 i1 L => by
    obtain ⟨s1, h1, s2, h2, a1, a2, L2⟩ := st2_ok hf g l0 l1 i0 (by omega) (by omega) L.2
    exact ⟨s1, h1, s2, h2, a1, a2, by omega, L2⟩)
  obtain ⟨r3, k3, t3, u3, v3, B6, D6⟩ := take_ok B5 (n := (bs.length : Int) + 1) (by omega) (by omega) (by omega)
  have R3 : k3.g h.n = some (.lst (bs.map D.int)) := (D6.g _ hf).trans R
  unfold Ins at R
  have hgd := rngG (n := r2) u2 (by omega)
  have cm : ∀ l u, cutD (bs.map D.int) l u = ((bs.drop (HT.sIx bs.length 0 l)).take (HT.sIx bs.length bs.length u - HT.sIx bs.length 0 l)).map D.int := fun l u => by
    unfold cutD
    rw [List.length_map, List.map_take, List.map_drop]
  have cl : ∀ l u, (cutD (bs.map D.int) l u).length ≤ bs.length := fun l u => by
    rw [cm, List.length_map, List.length_take, List.length_drop]
    omega
  obtain ⟨cs, hcs, hcl⟩ : ∃ cs : List Int, cutD (bs.map D.int) (some r3) none ++ cutD (bs.map D.int) none (some r3) = cs.map D.int ∧ cs.length ≤ 2 * bs.length := by
    refine ⟨_, by rw [cm, cm, ← List.map_append], ?_⟩
    have h1 := cl (some r3) none
    have h2 := cl none (some r3)
    rw [cm, List.length_map] at h1 h2
    rw [List.length_append]
    omega
  have hlen : (cutD (bs.map D.int) (some r3) none).length + (cutD (bs.map D.int) none (some r3)).length ≤ 100000 := by
    have h1 := cl (some r3) none
    have h2 := cl none (some r3)
    omega
  refine ⟨cs, k3, ?_, by omega, B6.mono (by omega), ?_⟩
  · simp (disch := omega) only [fnM, eVar, eC, eBin, eUn, aNil, aCons, eTup, eLst, eLstN, eFn, eIf, eFld, eCall, eMeth, eMake, insOf, tst, tstB, MP.tAnd, MP.tOr, MP.tNot, eAnd, eOr, eNot, eChain, truth, optR, Res.bind, Res.bindS, sNil, sSeq, sExp, sRet, sRetN, sIf, sAsg, sSet, sPar, MP.sFld, MP.sFldAug, sFor, nxO, gNm, gFld, gIx, setIx, setFld, gsNil, gsCons, gTp, gLs, MP.iRng1, MP.iRng2, iSeq, iLst, MP.iTup, seqL, seqM, seqT, seqX, eIsi, tyName, isi_ii, isi_ib, isi_bi, isi_bb, isi_ni, isi_si, isi_ss, isi_is, isi_tt, isi_ti, isi_li, pAdd, pSub, pMul_ok, pDiv_ok, pMod_ok, pNeg, pLt, pLe, pGt, pGe, pEq, pNe, pEqB, sEq, pIs, pIsNot, MP.isNon, pIx, fAbs, fMax2, fMin2, fInt, fLen, gSel, pick, AH.put_g, AH.put_n, AH.new_g, AH.new_n, AH.put_same, AH.new_same, AH.put_put, AH.new_put, List.length_cons, List.length_nil, List.map_cons, List.map_nil, List.cons_append, List.nil_append, List.append_nil, List.replicate, List.getElem?_cons_zero, List.getElem?_cons_succ, List.getElem?_nil, List.set_cons_zero, List.set_cons_succ, List.flatMap_cons, List.flatMap_nil, List.drop_zero, List.drop_succ_cons, List.drop_nil, List.take_succ_cons, List.take_zero, List.take_nil, List.contains_cons, List.contains_nil, Bool.or_false, Bool.or_true, Bool.true_or, Bool.false_or, Bool.and_true, Bool.and_false, Bool.not_true, Bool.not_false, beq_self_eq_true, Nat.reduceAdd, Nat.reduceSub, Nat.reduceLeDiff, Nat.reduceLT, Nat.reduceEqDiff, Nat.reduceBEq, Int.reduceToNat, ↓reduceIte, reduceIte, Bool.false_eq_true, ne_true_f, pow10_18, pow10_10, pow10_11, pow10_6, decide_eq_true_eq, and_self, and_true, true_and, Nat.zero_le, Option.map_some, Option.map_none, Option.bind_some, Int.reduceLT, Int.reduceLE, Int.reduceNeg, decide_true, decide_false, ixN_0, ixN_1, ixN_2, ixN_3, ixN_m1, atI_1, atI_2, atI_3, eq_self, Option.some.injEq, false_and, atI_0, Nat.zero_add, Nat.add_zero, sRaise, sRaise0, sTryO, noEx, fAny, fAll, blsL, compL, wipeD, CT.set, eComp, eCompN, lstOk, fSum, fTuple, fList, sAug, pAddI, pSubI, pIn, pNotIn, inB, MP.iZip, iEnumA, fSortP, fSortSet, eSl, partD, zipD_ints, pairsL_map, eBm, mAppend, List.any_cons, List.any_nil, List.all_cons, List.all_nil, id, List.length_append, List.zip_cons_cons, List.zip_nil_left, List.reverse_cons, List.reverse_nil, eqb_int, eqb_str, eqb_bl, kc0, kc1, kc2, kc3, kc4, kc5, kc6, kc7, kc8, kc9, kc10, kc11, kc12, kc13, kc14, kc15, kc16, kc17, kc18, kc19, kc20, Int.reduceBEq, Int.reduceMul, Int.reduceSub, Pool_get_kept, Pool_set_kept, Pool_put_0, Pool_no_stretches, Pool_no___len__, Pool_no_has, Pool_no_number_at, Pool_no_place_of, Pool_no_first_from, Pool_no_joined, Pool_no_met, Pool_no_without, Pool_no_dealt, Pool_no___eq__, Pool_no___str__, Pool_no___repr__, f_law_but, b_law_but, e_take, t1, e1, t2, hgd, e, List.length_map, R, t3, R3, hcs, hlen]
  · refine ⟨by rw [D6.n, hn, D12.n, AH.new_n]; omega, fun k hk hkb => ?_⟩
    have hkf : k ≠ h.n := by omega
    rw [D6.g k hkb, hg k hkb hkf, D12.g k hkb, AH.new_ne hkf]

theorem repr1 {r : Option Int} (hr : ∀ x, r = some x → 0 ≤ x ∧ x ≤ 999999) : ∃ t, ∀ h, fRepr h [optD r] = some (.str t) := by
  cases r with
  | none => exact ⟨_, fun h => repr_of (p := .none) rfl Sh.non (by decide) (by decide)⟩
  | some x => exact ⟨_, fun h => repr_of (p := .int x) rfl (Sh.int (by have := hr x rfl; omega)) (by decide) (by decide)⟩
theorem repr2 {r : Option Int} (hr : ∀ x, r = some x → 0 ≤ x ∧ x ≤ 999999) : ∃ t, ∀ h, fRepr h [.lst [optD r, optD r]] = some (.str t) := by
  cases r with
  | none => exact ⟨_, fun h => repr_of (p := .list [.none, .none]) rfl (Sh.lst (ShL.cons Sh.non (ShL.cons Sh.non ShL.nil))) (by decide) (by decide)⟩
  | some x => exact ⟨_, fun h => repr_of (p := .list [.int x, .int x]) rfl (Sh.lst (ShL.cons (Sh.int (by have := hr x rfl; omega)) (ShL.cons (Sh.int (by have := hr x rfl; omega)) ShL.nil))) (by decide) (by decide)⟩
theorem stretches_is {a : Nat} {h : AH} {m : List PRow} (P : Pl h a m) : f_Pool_stretches [.ref a] h = .ok (.tup (m.map tupP)) h := by
  unfold Pl at P
  simp (disch := omega) only [fnM, eVar, eC, eBin, eUn, aNil, aCons, eTup, eLst, eLstN, eFn, eIf, eFld, eCall, eMeth, eMake, insOf, tst, tstB, MP.tAnd, MP.tOr, MP.tNot, eAnd, eOr, eNot, eChain, truth, optR, Res.bind, Res.bindS, sNil, sSeq, sExp, sRet, sRetN, sIf, sAsg, sSet, sPar, MP.sFld, MP.sFldAug, sFor, nxO, gNm, gFld, gIx, setIx, setFld, gsNil, gsCons, gTp, gLs, MP.iRng1, MP.iRng2, iSeq, iLst, MP.iTup, seqL, seqM, seqT, seqX, eIsi, tyName, isi_ii, isi_ib, isi_bi, isi_bb, isi_ni, isi_si, isi_ss, isi_is, isi_tt, isi_ti, isi_li, pAdd, pSub, pMul_ok, pDiv_ok, pMod_ok, pNeg, pLt, pLe, pGt, pGe, pEq, pNe, pEqB, sEq, pIs, pIsNot, MP.isNon, pIx, fAbs, fMax2, fMin2, fInt, fLen, gSel, pick, AH.put_g, AH.put_n, AH.new_g, AH.new_n, AH.put_same, AH.new_same, AH.put_put, AH.new_put, List.length_cons, List.length_nil, List.map_cons, List.map_nil, List.cons_append, List.nil_append, List.append_nil, List.replicate, List.getElem?_cons_zero, List.getElem?_cons_succ, List.getElem?_nil, List.set_cons_zero, List.set_cons_succ, List.flatMap_cons, List.flatMap_nil, List.drop_zero, List.drop_succ_cons, List.drop_nil, List.take_succ_cons, List.take_zero, List.take_nil, List.contains_cons, List.contains_nil, Bool.or_false, Bool.or_true, Bool.true_or, Bool.false_or, Bool.and_true, Bool.and_false, Bool.not_true, Bool.not_false, beq_self_eq_true, Nat.reduceAdd, Nat.reduceSub, Nat.reduceLeDiff, Nat.reduceLT, Nat.reduceEqDiff, Nat.reduceBEq, Int.reduceToNat, ↓reduceIte, reduceIte, Bool.false_eq_true, ne_true_f, pow10_18, pow10_10, pow10_11, pow10_6, decide_eq_true_eq, and_self, and_true, true_and, Nat.zero_le, Option.map_some, Option.map_none, Option.bind_some, Int.reduceLT, Int.reduceLE, Int.reduceNeg, decide_true, decide_false, ixN_0, ixN_1, ixN_2, ixN_3, ixN_m1, atI_1, atI_2, atI_3, eq_self, Option.some.injEq, false_and, atI_0, Nat.zero_add, Nat.add_zero, sRaise, sRaise0, sTryO, noEx, fAny, fAll, blsL, compL, wipeD, CT.set, eComp, eCompN, lstOk, fSum, fTuple, fList, sAug, pAddI, pSubI, pIn, pNotIn, inB, MP.iZip, iEnumA, fSortP, fSortSet, eSl, partD, zipD_ints, pairsL_map, eBm, mAppend, List.any_cons, List.any_nil, List.all_cons, List.all_nil, id, List.length_append, List.zip_cons_cons, List.zip_nil_left, List.reverse_cons, List.reverse_nil, eqb_int, eqb_str, eqb_bl, kc0, kc1, kc2, kc3, kc4, kc5, kc6, kc7, kc8, kc9, kc10, kc11, kc12, kc13, kc14, kc15, kc16, kc17, kc18, kc19, kc20, Int.reduceBEq, Int.reduceMul, Int.reduceSub, Pool_get_kept, Pool_set_kept, Pool_put_0, Pool_no_stretches, Pool_no___len__, Pool_no_has, Pool_no_number_at, Pool_no_place_of, Pool_no_first_from, Pool_no_joined, Pool_no_met, Pool_no_without, Pool_no_dealt, Pool_no___eq__, Pool_no___str__, Pool_no___repr__, f_Pool_stretches, b_Pool_stretches, P]
structure St3 (sc at_ rw : D) (b p : Nat) (m : List PRow) (K : Int) (i : Int) (s : Sl) (h : AH) : Prop where
  e : ∃ x6 x7 x8 x9 x10, s = [some sc, some at_, some (.ref b), some rw, some (.tup (m.map tupP)), some (.ref p), x6, x7, x8, x9, x10]
  P : Pl h p m
  B : Bag h b (K + 2000 * i)
  hb : b < h.n
  hp : p < h.n
theorem turn_ok {sc at_ rw : D} {b p : Nat} {m : List PRow} {K i : Int} {s : Sl} {h : AH} (hpb : p ≠ b) (g : Good m) (hl : m.length ≤ 20) (i0 : 0 ≤ i) (i1 : i < 5) (K0 : 0 ≤ K) (K1 : K < 500000) (S : St3 sc at_ rw b p m K i s h) :
    ∃ s1 h1 s2 h2, gNm 6 (.int i) s h = some (s1, h1) ∧ (L_law_7 s1 h1 = .nx s2 h2 ∨ L_law_7 s1 h1 = .ct s2 h2) ∧ St3 sc at_ rw b p m K (i + 1) s2 h2 := by
  obtain ⟨⟨x6, x7, x8, x9, x10, rfl⟩, P, B, hb, hp⟩ := S
  obtain ⟨lo, k1, t1, l0, l1, B1, D1⟩ := low_ok B (by omega) g hl
  have P1 : Pl k1 p m := (D1.g p hpb).trans P
  have hb1 : b < k1.n := by rw [D1.n]; exact hb
  have hp1 : p < k1.n := by rw [D1.n]; exact hp
  obtain ⟨bs, k2, t2, bl, B2, D2⟩ := but_ok B1 hb1 (by omega) g l0 l1
  have P2 : Pl k2 p m := (D2.g p hp1 hpb).trans P1
  have hb2 : b < k2.n := Nat.lt_of_lt_of_le hb1 D2.n
  have hp2 : p < k2.n := Nat.lt_of_lt_of_le hp1 D2.n
  have F1 : ∀ h, f_law_first [.tup (m.map tupP), .int lo, .tup (bs.map .int)] h = .ok (optD (firstR bs lo m)) h := fun h => lawfirst_ok bl (by omega) (by omega) g
  have F2 : ∀ h, f_law_first [.tup (m.map tupP), .int 0, .tup (bs.map .int)] h = .ok (optD (firstR bs 0 m)) h := fun h => lawfirst_ok bl (by decide) (by decide) g
  have F3 : ∀ h, f_law_first [.tup (m.map tupP), .int lo, .tup []] h = .ok (optD (firstR [] lo m)) h := fun h => lawfirst_ok (bs := []) (by decide) (by omega) (by omega) g
  have F4 : ∀ h, f_law_first [.tup (m.map tupP), .int 0, .tup []] h = .ok (optD (firstR [] 0 m)) h := fun h => lawfirst_ok (bs := []) (by decide) (by decide) (by decide) g
  have G1 := from_ok (lo := lo) P2 bl
  have G2 := from_ok (lo := 0) P2 bl
  have G3 : f_Pool_first_from [.ref p, .int lo, .tup []] k2 = .ok (optD (firstR [] lo m)) k2 := from_ok (bs := []) P2 (by decide)
  have G4 : f_Pool_first_from [.ref p, .int 0, .tup []] k2 = .ok (optD (firstR [] 0 m)) k2 := from_ok (bs := []) P2 (by decide)
  have ST := stretches_is P2
  obtain ⟨u1, R1⟩ := repr2 (r := firstR bs lo m) fun x hx => firstR_le g hx
  obtain ⟨u2, R2⟩ := repr1 (r := firstR bs 0 m) fun x hx => firstR_le g hx
  obtain ⟨u3, R3⟩ := repr1 (r := firstR [] lo m) fun x hx => firstR_le g hx
  obtain ⟨u4, R4⟩ := repr1 (r := firstR [] 0 m) fun x hx => firstR_le g hx
  have er : ∀ h, pEqB h (.tup (m.map tupP)) (.tup (m.map tupP)) = some true := fun h => eqb_rows
  have fw0 : fw [] = [] := rfl
  have I5 : f_Pool_init [.ref k2.n, .tup []] (k2.new (.ins 1 [])) = .ok .non (((k2.new (.ins 1 [])).new (.lst [])).put k2.n (.ins 1 [("kept", .tup [])])) := init_ok (ps := []) (fun p hp => by cases hp) (by decide) k2
  have P5 : Pl (((k2.new (.ins 1 [])).new (.lst [])).put k2.n (.ins 1 [("kept", .tup [])])) k2.n [] := AH.put_same ..
  have G5 : f_Pool_first_from [.ref k2.n, .int lo, .tup (bs.map .int)] (((k2.new (.ins 1 [])).new (.lst [])).put k2.n (.ins 1 [("kept", .tup [])])) = .ok .non (((k2.new (.ins 1 [])).new (.lst [])).put k2.n (.ins 1 [("kept", .tup [])])) := from_ok P5 bl
  have out : ∀ k, k < k2.n → (((k2.new (.ins 1 [])).new (.lst [])).put k2.n (.ins 1 [("kept", .tup [])])).g k = k2.g k := fun k hk => by
    rw [AH.put_ne (by omega), AH.new_ne (by rw [AH.new_n]; omega), AH.new_ne (by omega)]
  have on : (((k2.new (.ins 1 [])).new (.lst [])).put k2.n (.ins 1 [("kept", .tup [])])).n = k2.n + 2 := rfl
  have P5' := P5
  unfold Pl at P5' P2
  revert I5 P5 G5 out on P5'
  generalize ((k2.new (.ins 1 [])).new (.lst [])).put k2.n (.ins 1 [("kept", .tup [])]) = k5
  intro I5 P5 G5 out on P5'
  refine ⟨[some sc, some at_, some (.ref b), some rw, some (.tup (m.map tupP)), some (.ref p), some (.int i), x7, x8, x9, x10], h, [some sc, some at_, some (.ref b), some rw, some (.tup (m.map tupP)), some (.ref p), some (.int i), some (.int lo), some (.tup (bs.map .int)), some (optD (firstR bs lo m)), some (.lst [optD (firstR bs lo m), optD (firstR bs lo m)])], k5, rfl, .inl ?_, ⟨⟨_, _, _, _, _, rfl⟩, (out p hp2).trans P2, (B2.keep (out b hb2)).mono (by omega), by omega, by omega⟩⟩
  simp (disch := omega) only [fnM, eVar, eC, eBin, eUn, aNil, aCons, eTup, eLst, eLstN, eFn, eIf, eFld, eCall, eMeth, eMake, insOf, tst, tstB, MP.tAnd, MP.tOr, MP.tNot, eAnd, eOr, eNot, eChain, truth, optR, Res.bind, Res.bindS, sNil, sSeq, sExp, sRet, sRetN, sIf, sAsg, sSet, sPar, MP.sFld, MP.sFldAug, sFor, nxO, gNm, gFld, gIx, setIx, setFld, gsNil, gsCons, gTp, gLs, MP.iRng1, MP.iRng2, iSeq, iLst, MP.iTup, seqL, seqM, seqT, seqX, eIsi, tyName, isi_ii, isi_ib, isi_bi, isi_bb, isi_ni, isi_si, isi_ss, isi_is, isi_tt, isi_ti, isi_li, pAdd, pSub, pMul_ok, pDiv_ok, pMod_ok, pNeg, pLt, pLe, pGt, pGe, pEq, pNe, sEq, pIs, pIsNot, MP.isNon, pIx, fAbs, fMax2, fMin2, fInt, fLen, gSel, pick, AH.put_g, AH.put_n, AH.new_g, AH.new_n, AH.put_same, AH.new_same, AH.put_put, AH.new_put, List.length_cons, List.length_nil, List.map_cons, List.map_nil, List.cons_append, List.nil_append, List.append_nil, List.replicate, List.getElem?_cons_zero, List.getElem?_cons_succ, List.getElem?_nil, List.set_cons_zero, List.set_cons_succ, List.flatMap_cons, List.flatMap_nil, List.drop_zero, List.drop_succ_cons, List.drop_nil, List.take_succ_cons, List.take_zero, List.take_nil, List.contains_cons, List.contains_nil, Bool.or_false, Bool.or_true, Bool.true_or, Bool.false_or, Bool.and_true, Bool.and_false, Bool.not_true, Bool.not_false, beq_self_eq_true, Nat.reduceAdd, Nat.reduceSub, Nat.reduceLeDiff, Nat.reduceLT, Nat.reduceEqDiff, Nat.reduceBEq, Int.reduceToNat, ↓reduceIte, reduceIte, Bool.false_eq_true, ne_true_f, pow10_18, pow10_10, pow10_11, pow10_6, decide_eq_true_eq, and_self, and_true, true_and, Nat.zero_le, Option.map_some, Option.map_none, Option.bind_some, Int.reduceLT, Int.reduceLE, Int.reduceNeg, decide_true, decide_false, ixN_0, ixN_1, ixN_2, ixN_3, ixN_m1, atI_1, atI_2, atI_3, eq_self, Option.some.injEq, false_and, atI_0, Nat.zero_add, Nat.add_zero, sRaise, sRaise0, sTryO, noEx, fAny, fAll, blsL, compL, wipeD, CT.set, eComp, eCompN, lstOk, fSum, fTuple, fList, sAug, pAddI, pSubI, pIn, pNotIn, inB, MP.iZip, iEnumA, fSortP, fSortSet, eSl, partD, zipD_ints, pairsL_map, eBm, mAppend, List.any_cons, List.any_nil, List.all_cons, List.all_nil, id, List.length_append, List.zip_cons_cons, List.zip_nil_left, List.reverse_cons, List.reverse_nil, eqb_int, eqb_str, eqb_bl, kc0, kc1, kc2, kc3, kc4, kc5, kc6, kc7, kc8, kc9, kc10, kc11, kc12, kc13, kc14, kc15, kc16, kc17, kc18, kc19, kc20, Int.reduceBEq, Int.reduceMul, Int.reduceSub, Pool_get_kept, Pool_set_kept, Pool_put_0, Pool_no_stretches, Pool_no___len__, Pool_no_has, Pool_no_number_at, Pool_no_place_of, Pool_no_first_from, Pool_no_joined, Pool_no_met, Pool_no_without, Pool_no_dealt, Pool_no___eq__, Pool_no___str__, Pool_no___repr__, L_law_7, R_law_1_1, R_law_1_2, R_law_1_3, R_law_1_4, R_law_1_5, R_law_1_6, t1, t2, F1, F2, F3, F4, G1, G2, G3, G4, G5, ST, R1, R2, R3, R4, er, I5, P5', P2]

theorem round_ok (ns : List Int) (i : Int) (i0 : 0 ≤ i) (i1 : i < 4) (s : Sl) (h : AH) (hs : ∃ x1 x2 x3 x4 x5 x6 x7 x8 x9 x10, s = [some (.fz (ns.map .int)), x1, x2, x3, x4, x5, x6, x7, x8, x9, x10]) :
    ∃ s1 h1 s2 h2, gNm 1 (.int i) s h = some (s1, h1) ∧ (L_law_8 s1 h1 = .nx s2 h2 ∨ L_law_8 s1 h1 = .ct s2 h2) ∧ ∃ x1 x2 x3 x4 x5 x6 x7 x8 x9 x10, s2 = [some (.fz (ns.map .int)), x1, x2, x3, x4, x5, x6, x7, x8, x9, x10] := by
  obtain ⟨x1, x2, x3, x4, x5, x6, x7, x8, x9, x10, rfl⟩ := hs
  obtain ⟨a, rfl⟩ : ∃ a : Nat, i = a := ⟨i.toNat, by omega⟩
  obtain ⟨o, tb, B0⟩ := bagB_ok ns a (by omega) h
  obtain ⟨ps, k1, t1, G, pl, B1, W1⟩ := stretches_ok (m := 20) B0 (by rw [AH.new_n]; omega) (by decide) (by decide) (by decide)
  have n1 : h.n < k1.n := Nat.lt_of_lt_of_le (show h.n < (h.new o).n by rw [AH.new_n]; omega) W1.n
  have FE := lawfewest_ok ps (by omega) k1
  have I1 := init_ok G (by omega) k1
  have P2 : Pl (((k1.new (.ins 1 [])).new (.lst ((fw ps).map tupP))).put k1.n (.ins 1 [("kept", .tup ((fw ps).map tupP))])) k1.n (fw ps) := AH.put_same ..
  have B2 : Bag (((k1.new (.ins 1 [])).new (.lst ((fw ps).map tupP))).put k1.n (.ins 1 [("kept", .tup ((fw ps).map tupP))])) h.n 4000 := (B1.keep (by rw [AH.put_ne (by omega), AH.new_ne (by rw [AH.new_n]; omega), AH.new_ne (by omega)])).mono (by omega)
  have n2 : (((k1.new (.ins 1 [])).new (.lst ((fw ps).map tupP))).put k1.n (.ins 1 [("kept", .tup ((fw ps).map tupP))])).n = k1.n + 2 := rfl
  revert I1 P2 B2 n2
  generalize ((k1.new (.ins 1 [])).new (.lst ((fw ps).map tupP))).put k1.n (.ins 1 [("kept", .tup ((fw ps).map tupP))]) = k2
  intro I1 P2 B2 n2
  have fl := fw_len ps
  obtain ⟨s', h', e, _, ⟨⟨y6, y7, y8, y9, y10, es⟩, _, _, _, _⟩⟩ := forR (g := gNm 6) (b := L_law_7) (fun i s h' => i ≤ 5 ∧ St3 (.fz (ns.map .int)) (.int a) (.tup (ps.map tupP)) h.n k1.n (fw ps) 4000 i s h') (lo := 0) (hi := 5) (by decide)
    (s := [some (.fz (ns.map .int)), some (.int a), some (.ref h.n), some (.tup (ps.map tupP)), some (.tup ((fw ps).map tupP)), some (.ref k1.n), x6, x7, x8, x9, x10]) (h := k2)
    ⟨by decide, ⟨⟨_, _, _, _, _, rfl⟩, P2, B2.mono (by omega), by omega, by omega⟩⟩ (fun i s h' i0 i1 L => by
      obtain ⟨s1, h1, s2, h2, a1, a2, L2⟩ := turn_ok (by omega) (good_fw G) (by omega) i0 i1 (by decide) (by decide) L.2
      exact ⟨s1, h1, s2, h2, a1, a2, by omega, L2⟩)
  refine ⟨_, _, s', h', rfl, .inl ?_, _, _, _, _, _, _, _, _, _, _, es⟩
  have hg : -2 ^ 62 ≤ (5 : Int) ∧ (5 : Int) < 2 ^ 62 := by decide
  simp (disch := omega) only [fnM, eVar, eC, eBin, eUn, aNil, aCons, eTup, eLst, eLstN, eFn, eIf, eFld, eCall, eMeth, eMake, insOf, tst, tstB, MP.tAnd, MP.tOr, MP.tNot, eAnd, eOr, eNot, eChain, truth, optR, Res.bind, Res.bindS, sNil, sSeq, sExp, sRet, sRetN, sIf, sAsg, sSet, sPar, MP.sFld, MP.sFldAug, sFor, nxO, gNm, gFld, gIx, setIx, setFld, gsNil, gsCons, gTp, gLs, MP.iRng1, MP.iRng2, iSeq, iLst, MP.iTup, seqL, seqM, seqT, seqX, eIsi, tyName, isi_ii, isi_ib, isi_bi, isi_bb, isi_ni, isi_si, isi_ss, isi_is, isi_tt, isi_ti, isi_li, pAdd, pSub, pMul_ok, pDiv_ok, pMod_ok, pNeg, pLt, pLe, pGt, pGe, pEq, pNe, pEqB, sEq, pIs, pIsNot, MP.isNon, pIx, fAbs, fMax2, fMin2, fInt, fLen, gSel, pick, AH.put_g, AH.put_n, AH.new_g, AH.new_n, AH.put_same, AH.new_same, AH.put_put, AH.new_put, List.length_cons, List.length_nil, List.map_cons, List.map_nil, List.cons_append, List.nil_append, List.append_nil, List.replicate, List.getElem?_cons_zero, List.getElem?_cons_succ, List.getElem?_nil, List.set_cons_zero, List.set_cons_succ, List.flatMap_cons, List.flatMap_nil, List.drop_zero, List.drop_succ_cons, List.drop_nil, List.take_succ_cons, List.take_zero, List.take_nil, List.contains_cons, List.contains_nil, Bool.or_false, Bool.or_true, Bool.true_or, Bool.false_or, Bool.and_true, Bool.and_false, Bool.not_true, Bool.not_false, beq_self_eq_true, Nat.reduceAdd, Nat.reduceSub, Nat.reduceLeDiff, Nat.reduceLT, Nat.reduceEqDiff, Nat.reduceBEq, Int.reduceToNat, ↓reduceIte, reduceIte, Bool.false_eq_true, ne_true_f, pow10_18, pow10_10, pow10_11, pow10_6, decide_eq_true_eq, and_self, and_true, true_and, Nat.zero_le, Option.map_some, Option.map_none, Option.bind_some, Int.reduceLT, Int.reduceLE, Int.reduceNeg, decide_true, decide_false, ixN_0, ixN_1, ixN_2, ixN_3, ixN_m1, atI_1, atI_2, atI_3, eq_self, Option.some.injEq, false_and, atI_0, Nat.zero_add, Nat.add_zero, sRaise, sRaise0, sTryO, noEx, fAny, fAll, blsL, compL, wipeD, CT.set, eComp, eCompN, lstOk, fSum, fTuple, fList, sAug, pAddI, pSubI, pIn, pNotIn, inB, MP.iZip, iEnumA, fSortP, fSortSet, eSl, partD, zipD_ints, pairsL_map, eBm, mAppend, List.any_cons, List.any_nil, List.all_cons, List.all_nil, id, List.length_append, List.zip_cons_cons, List.zip_nil_left, List.reverse_cons, List.reverse_nil, eqb_int, eqb_str, eqb_bl, kc0, kc1, kc2, kc3, kc4, kc5, kc6, kc7, kc8, kc9, kc10, kc11, kc12, kc13, kc14, kc15, kc16, kc17, kc18, kc19, kc20, Int.reduceBEq, Int.reduceMul, Int.reduceSub, Pool_get_kept, Pool_set_kept, Pool_put_0, Pool_no_stretches, Pool_no___len__, Pool_no_has, Pool_no_number_at, Pool_no_place_of, Pool_no_first_from, Pool_no_joined, Pool_no_met, Pool_no_without, Pool_no_dealt, Pool_no___eq__, Pool_no___str__, Pool_no___repr__, L_law_8, e_bag, tb, t1, FE, I1, hg, e]
theorem law_true : LawTrue f_law := by
  intro ns hns
  have hm : 0 ≤ (if (if (ns.length : Int) < 4 then (ns.length : Int) else 4) > 1 then (if (ns.length : Int) < 4 then (ns.length : Int) else 4) else 1) ∧ (if (if (ns.length : Int) < 4 then (ns.length : Int) else 4) > 1 then (if (ns.length : Int) < 4 then (ns.length : Int) else 4) else 1) ≤ 4 := by
    split <;> split <;> omega
  obtain ⟨s', h', e, x1, x2, x3, x4, x5, x6, x7, x8, x9, x10, rfl⟩ := forR (g := gNm 1) (b := L_law_8) (fun _ s _ => ∃ x1 x2 x3 x4 x5 x6 x7 x8 x9 x10, s = [some (.fz (ns.map .int)), x1, x2, x3, x4, x5, x6, x7, x8, x9, x10])
    (s := [some (.fz (ns.map .int)), none, none, none, none, none, none, none, none, none, none]) (h := ah0) hm.1 ⟨_, _, _, _, _, _, _, _, _, _, rfl⟩ (fun i s h i0 i1 P => round_ok ns i i0 (by omega) s h P)
  have hg := rngG hm.1 (by omega)
  refine ⟨h', ?_⟩
  simp (disch := omega) only [fnM, eVar, eC, eBin, eUn, aNil, aCons, eTup, eLst, eLstN, eFn, eIf, eFld, eCall, eMeth, eMake, insOf, tst, tstB, MP.tAnd, MP.tOr, MP.tNot, eAnd, eOr, eNot, eChain, truth, optR, Res.bind, Res.bindS, sNil, sSeq, sExp, sRet, sRetN, sIf, sAsg, sSet, sPar, MP.sFld, MP.sFldAug, sFor, nxO, gNm, gFld, gIx, setIx, setFld, gsNil, gsCons, gTp, gLs, MP.iRng1, MP.iRng2, iSeq, iLst, MP.iTup, seqL, seqM, seqT, seqX, eIsi, tyName, isi_ii, isi_ib, isi_bi, isi_bb, isi_ni, isi_si, isi_ss, isi_is, isi_tt, isi_ti, isi_li, pAdd, pSub, pMul_ok, pDiv_ok, pMod_ok, pNeg, pLt, pLe, pGt, pGe, pEq, pNe, pEqB, sEq, pIs, pIsNot, MP.isNon, pIx, fAbs, fMax2, fMin2, fInt, fLen, gSel, pick, AH.put_g, AH.put_n, AH.new_g, AH.new_n, AH.put_same, AH.new_same, AH.put_put, AH.new_put, List.length_cons, List.length_nil, List.map_cons, List.map_nil, List.cons_append, List.nil_append, List.append_nil, List.replicate, List.getElem?_cons_zero, List.getElem?_cons_succ, List.getElem?_nil, List.set_cons_zero, List.set_cons_succ, List.flatMap_cons, List.flatMap_nil, List.drop_zero, List.drop_succ_cons, List.drop_nil, List.take_succ_cons, List.take_zero, List.take_nil, List.contains_cons, List.contains_nil, Bool.or_false, Bool.or_true, Bool.true_or, Bool.false_or, Bool.and_true, Bool.and_false, Bool.not_true, Bool.not_false, beq_self_eq_true, Nat.reduceAdd, Nat.reduceSub, Nat.reduceLeDiff, Nat.reduceLT, Nat.reduceEqDiff, Nat.reduceBEq, Int.reduceToNat, ↓reduceIte, reduceIte, Bool.false_eq_true, ne_true_f, pow10_18, pow10_10, pow10_11, pow10_6, decide_eq_true_eq, and_self, and_true, true_and, Nat.zero_le, Option.map_some, Option.map_none, Option.bind_some, Int.reduceLT, Int.reduceLE, Int.reduceNeg, decide_true, decide_false, ixN_0, ixN_1, ixN_2, ixN_3, ixN_m1, atI_1, atI_2, atI_3, eq_self, Option.some.injEq, false_and, atI_0, Nat.zero_add, Nat.add_zero, sRaise, sRaise0, sTryO, noEx, fAny, fAll, blsL, compL, wipeD, CT.set, eComp, eCompN, lstOk, fSum, fTuple, fList, sAug, pAddI, pSubI, pIn, pNotIn, inB, MP.iZip, iEnumA, fSortP, fSortSet, eSl, partD, zipD_ints, pairsL_map, eBm, mAppend, List.any_cons, List.any_nil, List.all_cons, List.all_nil, id, List.length_append, List.zip_cons_cons, List.zip_nil_left, List.reverse_cons, List.reverse_nil, eqb_int, eqb_str, eqb_bl, kc0, kc1, kc2, kc3, kc4, kc5, kc6, kc7, kc8, kc9, kc10, kc11, kc12, kc13, kc14, kc15, kc16, kc17, kc18, kc19, kc20, Int.reduceBEq, Int.reduceMul, Int.reduceSub, Pool_get_kept, Pool_set_kept, Pool_put_0, Pool_no_stretches, Pool_no___len__, Pool_no_has, Pool_no_number_at, Pool_no_place_of, Pool_no_first_from, Pool_no_joined, Pool_no_met, Pool_no_without, Pool_no_dealt, Pool_no___eq__, Pool_no___str__, Pool_no___repr__, f_law, b_law, hg, List.length_map, e]
end K03
set_option Elab.async false
set_option linter.all false
set_option maxRecDepth 100000
set_option maxHeartbeats 4000000
namespace K03
open PySem PySem.Spec L2 MP
open PyProof.Rows hiding St
def top (i : Nat) : Stmt := PySem.Challenge.pw_leasepair_k03_the_first_number.main.body.getD i (.Pass ⟨0, 0, 0, 0⟩)
abbrev s_law_bag : Stmt := top 15
abbrev N_law_bag : List Str := ["_law_script", "_law_at", "_law_cell"]
theorem sc_law_bag : FnScope N_law_bag ["_law_script", "_law_at"] (defScope s_law_bag) := ⟨rfl, rfl, rfl, by decide +kernel, rfl, by decide +kernel, by decide +kernel⟩
abbrev s_law_take : Stmt := top 16
abbrev N_law_take : List Str := ["_law_bag_here", "_law_many", "_law_digit", "_law_primes", "_law_step", "_law_base", "_law_here"]
theorem sc_law_take : FnScope N_law_take ["_law_bag_here", "_law_many"] (defScope s_law_take) := ⟨rfl, rfl, rfl, by decide +kernel, rfl, by decide +kernel, by decide +kernel⟩
abbrev s_law_stretches : Stmt := top 19
abbrev N_law_stretches : List Str := ["_law_bag_here", "_law_most", "_law_wide", "_law_long", "_law_found", "_law_turn", "_law_begin"]
theorem sc_law_stretches : FnScope N_law_stretches ["_law_bag_here", "_law_most"] (defScope s_law_stretches) := ⟨rfl, rfl, rfl, by decide +kernel, rfl, by decide +kernel, by decide +kernel⟩
abbrev s_law_has : Stmt := top 17
abbrev N_law_has : List Str := ["_law_rows", "_law_number", "_law_begin", "_law_end"]
theorem sc_law_has : FnScope N_law_has ["_law_rows", "_law_number"] (defScope s_law_has) := ⟨rfl, rfl, rfl, by decide +kernel, rfl, by decide +kernel, by decide +kernel⟩
abbrev s_law_fewest : Stmt := top 18
abbrev N_law_fewest : List Str := ["_law_rows", "_law_lows", "_law_highs", "_law_begin", "_law_end"]
theorem sc_law_fewest : FnScope N_law_fewest ["_law_rows"] (defScope s_law_fewest) := ⟨rfl, rfl, rfl, by decide +kernel, rfl, by decide +kernel, by decide +kernel⟩
abbrev s_is_whole : Stmt := top 4
abbrev N_is_whole : List Str := ["thing"]
theorem sc_is_whole : FnScope N_is_whole ["thing"] (defScope s_is_whole) := ⟨rfl, rfl, rfl, by decide +kernel, rfl, by decide +kernel, by decide +kernel⟩
abbrev s_is_within : Stmt := top 5
abbrev N_is_within : List Str := ["thing", "least", "most"]
theorem sc_is_within : FnScope N_is_within ["thing", "least", "most"] (defScope s_is_within) := ⟨rfl, rfl, rfl, by decide +kernel, rfl, by decide +kernel, by decide +kernel⟩
abbrev s_is_stretch : Stmt := top 9
abbrev N_is_stretch : List Str := ["thing", "number"]
theorem sc_is_stretch : FnScope N_is_stretch ["thing"] (defScope s_is_stretch) := ⟨rfl, rfl, rfl, by decide +kernel, rfl, by decide +kernel, by decide +kernel⟩
abbrev s_look_stretches : Stmt := top 10
abbrev N_look_stretches : List Str := ["thing", "at", "pair"]
theorem sc_look_stretches : FnScope N_look_stretches ["thing"] (defScope s_look_stretches) := ⟨rfl, rfl, rfl, by decide +kernel, rfl, by decide +kernel, by decide +kernel⟩
abbrev s_fewest : Stmt := top 11
abbrev N_fewest : List Str := ["stretches", "found", "low", "high"]
theorem sc_fewest : FnScope N_fewest ["stretches"] (defScope s_fewest) := ⟨rfl, rfl, rfl, by decide +kernel, rfl, by decide +kernel, by decide +kernel⟩
abbrev s_Pool_init : Stmt := inClass (top 12) 0
abbrev N_Pool_init : List Str := ["self", "stretches"]
theorem sc_Pool_init : FnScope N_Pool_init ["self", "stretches"] (defScope s_Pool_init) := ⟨rfl, rfl, rfl, by decide +kernel, rfl, by decide +kernel, by decide +kernel⟩
abbrev s_law_low : Stmt := top 21
abbrev N_law_low : List Str := ["_law_bag_here", "_law_shortest"]
theorem sc_law_low : FnScope N_law_low ["_law_bag_here", "_law_shortest"] (defScope s_law_low) := ⟨rfl, rfl, rfl, by decide +kernel, rfl, by decide +kernel, by decide +kernel⟩
abbrev s_law_first : Stmt := top 20
abbrev N_law_first : List Str := ["_law_shortest", "_law_least", "_law_bars", "_law_begin", "_law_end", "_law_first_here", "_law_some", "_law_number"]
theorem sc_law_first : FnScope N_law_first ["_law_shortest", "_law_least", "_law_bars"] (defScope s_law_first) := ⟨rfl, rfl, rfl, by decide +kernel, rfl, by decide +kernel, by decide +kernel⟩
abbrev s_law_but : Stmt := top 22
abbrev N_law_but : List Str := ["_law_bag_here", "_law_shortest", "_law_begin", "_law_found", "_law_here", "_law_turn", "_law_number"]
theorem sc_law_but : FnScope N_law_but ["_law_bag_here", "_law_shortest", "_law_begin"] (defScope s_law_but) := ⟨rfl, rfl, rfl, by decide +kernel, rfl, by decide +kernel, by decide +kernel⟩
abbrev s_Pool_first_from : Stmt := inClass (top 12) 6
abbrev N_Pool_first_from : List Str := ["self", "low", "but", "begin", "end", "number"]
theorem sc_Pool_first_from : FnScope N_Pool_first_from ["self", "low", "but"] (defScope s_Pool_first_from) := ⟨rfl, rfl, rfl, by decide +kernel, rfl, by decide +kernel, by decide +kernel⟩
abbrev s_Pool_stretches : Stmt := inClass (top 12) 1
abbrev N_Pool_stretches : List Str := ["self"]
theorem sc_Pool_stretches : FnScope N_Pool_stretches ["self"] (defScope s_Pool_stretches) := ⟨rfl, rfl, rfl, by decide +kernel, rfl, by decide +kernel, by decide +kernel⟩
abbrev s_law : Stmt := top 23
abbrev N_law : List Str := ["_law_script", "_law_at", "_law_bag_here", "_law_rows", "_law_shortest", "_law_pool", "_law_turn", "_law_begin", "_law_bars", "_law_due", "_law_told"]
theorem sc_law : FnScope N_law ["_law_script"] (defScope s_law) := ⟨rfl, rfl, rfl, by decide +kernel, rfl, by decide +kernel, by decide +kernel⟩
def d_law_bag : He.DefD := ⟨("_law_bag", none), "_law_bag", "_law_bag", defArgs s_law_bag, defBody s_law_bag, defScope s_law_bag, [], []⟩
def d_law_take : He.DefD := ⟨("_law_take", none), "_law_take", "_law_take", defArgs s_law_take, defBody s_law_take, defScope s_law_take, [], []⟩
def d_law_stretches : He.DefD := ⟨("_law_stretches", none), "_law_stretches", "_law_stretches", defArgs s_law_stretches, defBody s_law_stretches, defScope s_law_stretches, [], []⟩
def d_law_has : He.DefD := ⟨("_law_has", none), "_law_has", "_law_has", defArgs s_law_has, defBody s_law_has, defScope s_law_has, [], []⟩
def d_law_fewest : He.DefD := ⟨("_law_fewest", none), "_law_fewest", "_law_fewest", defArgs s_law_fewest, defBody s_law_fewest, defScope s_law_fewest, [], []⟩
def d_is_whole : He.DefD := ⟨("is_whole", none), "is_whole", "is_whole", defArgs s_is_whole, defBody s_is_whole, defScope s_is_whole, [], []⟩
def d_is_within : He.DefD := ⟨("is_within", none), "is_within", "is_within", defArgs s_is_within, defBody s_is_within, defScope s_is_within, [], []⟩
def d_is_stretch : He.DefD := ⟨("is_stretch", none), "is_stretch", "is_stretch", defArgs s_is_stretch, defBody s_is_stretch, defScope s_is_stretch, [], []⟩
def d_look_stretches : He.DefD := ⟨("look_stretches", none), "look_stretches", "look_stretches", defArgs s_look_stretches, defBody s_look_stretches, defScope s_look_stretches, [], []⟩
def d_fewest : He.DefD := ⟨("fewest", none), "fewest", "fewest", defArgs s_fewest, defBody s_fewest, defScope s_fewest, [], []⟩
def d_Pool_init : He.DefD := ⟨("Pool", some "__init__"), "__init__", "Pool.__init__", defArgs s_Pool_init, defBody s_Pool_init, defScope s_Pool_init, [.adr (He.dflAt ("Pool", some "__init__") 0)], []⟩
def d_law_low : He.DefD := ⟨("_law_low", none), "_law_low", "_law_low", defArgs s_law_low, defBody s_law_low, defScope s_law_low, [], []⟩
def d_law_first : He.DefD := ⟨("_law_first", none), "_law_first", "_law_first", defArgs s_law_first, defBody s_law_first, defScope s_law_first, [], []⟩
def d_law_but : He.DefD := ⟨("_law_but", none), "_law_but", "_law_but", defArgs s_law_but, defBody s_law_but, defScope s_law_but, [], []⟩
def d_Pool_first_from : He.DefD := ⟨("Pool", some "first_from"), "first_from", "Pool.first_from", defArgs s_Pool_first_from, defBody s_Pool_first_from, defScope s_Pool_first_from, [.int 0], [("but", .adr (kwAt ("Pool", some "first_from") "but"))]⟩
def d_Pool_stretches : He.DefD := ⟨("Pool", some "stretches"), "stretches", "Pool.stretches", defArgs s_Pool_stretches, defBody s_Pool_stretches, defScope s_Pool_stretches, [], []⟩
def d_law : He.DefD := ⟨("law", none), "law", "law", defArgs s_law, defBody s_law, defScope s_law, [], []⟩
def fns : List He.DefD := [d_law_bag, d_law_take, d_law_stretches, d_law_has, d_law_fewest, d_is_whole, d_is_within, d_is_stretch, d_look_stretches, d_fewest, d_Pool_init, d_law_low, d_law_first, d_law_but, d_Pool_first_from, d_Pool_stretches, d_law]
def fa : List He.Fa := [.free "len", .free "min", .free "max", .free "range", .glo "_law_bag", .glo "_law_stretches", .glo "_law_fewest", .mkr "Pool", .glo "Pool", .glo "_law_low", .glo "_law_but", .glo "_law_first", .cls "Pool", .meth "Pool" "first_from", .free "repr", .meth "Pool" "stretches", .noat "Pool" "kept", .glo "look_stretches", .glo "fewest", .free "sorted", .free "tuple", .free "isinstance", .int "MOST_STRETCHES" 20, .free "enumerate", .glo "is_stretch", .int "MOST_NUMBER" 999999, .glo "is_within", .free "all", .glo "is_whole", .free "int", .free "bool", .glo "_law_take", .glo "_law_has", .free "set", .free "zip", .free "any", .free "abs", .glo "law"]
def xa : List XFa := [.tup0 (He.dflAt ("Pool", some "__init__") 0), .tup0 (kwAt ("Pool", some "first_from") "but")]
def Tc (K : PySem.W.Frag) : Nat → Addr
  | 0 => He.ga K "NoPool"
  | 1 => He.ga K "Pool"
  | _ => 0
structure Ctx (K : PySem.W.Frag) (mg : Str → Option Value) : Prop where
  c : He.SaysD fa fns K
  x : xAll xa K = true
  h : ∃ hp : Heap, K.In hp ∧ hp.Ns mainGlobals mg
section
variable {P : Program} {w : World} {K : PySem.W.Frag} {mg : Str → Option Value} {base : Heap}
noncomputable abbrev Ctx.hp (z : Ctx K mg) : Heap := z.h.choose
theorem Ctx.k (z : Ctx K mg) : K.In z.hp := z.h.choose_spec.1
theorem Ctx.n (z : Ctx K mg) : z.hp.Ns mainGlobals mg := z.h.choose_spec.2
theorem Ctx.f_kept (z : Ctx K mg) : FldOk K (Tc K) [1] "kept" := fun k hk => by
  simp only [List.contains_cons, List.contains_nil, Bool.or_false, Bool.or_eq_true, beq_iff_eq] at hk
  subst hk; exact ⟨(He.cls_ok (z.c.fact 12)), (He.noat_ok (z.c.fact 16))⟩
noncomputable abbrev fd_law_bag (z : Ctx K mg) : FuncData := (z.c.def_ 0 (d := d_law_bag) rfl).choose
theorem fS_law_bag (z : Ctx K mg) : FunD K "_law_bag" "_law_bag" (defArgs s_law_bag) (defBody s_law_bag) (defScope s_law_bag) [] [] (He.fAd K ("_law_bag", none)) (fd_law_bag z) := (z.c.def_ 0 (d := d_law_bag) rfl).choose_spec
noncomputable abbrev fd_law_take (z : Ctx K mg) : FuncData := (z.c.def_ 1 (d := d_law_take) rfl).choose
theorem fS_law_take (z : Ctx K mg) : FunD K "_law_take" "_law_take" (defArgs s_law_take) (defBody s_law_take) (defScope s_law_take) [] [] (He.fAd K ("_law_take", none)) (fd_law_take z) := (z.c.def_ 1 (d := d_law_take) rfl).choose_spec
noncomputable abbrev fd_law_stretches (z : Ctx K mg) : FuncData := (z.c.def_ 2 (d := d_law_stretches) rfl).choose
theorem fS_law_stretches (z : Ctx K mg) : FunD K "_law_stretches" "_law_stretches" (defArgs s_law_stretches) (defBody s_law_stretches) (defScope s_law_stretches) [] [] (He.fAd K ("_law_stretches", none)) (fd_law_stretches z) := (z.c.def_ 2 (d := d_law_stretches) rfl).choose_spec
noncomputable abbrev fd_law_has (z : Ctx K mg) : FuncData := (z.c.def_ 3 (d := d_law_has) rfl).choose
theorem fS_law_has (z : Ctx K mg) : FunD K "_law_has" "_law_has" (defArgs s_law_has) (defBody s_law_has) (defScope s_law_has) [] [] (He.fAd K ("_law_has", none)) (fd_law_has z) := (z.c.def_ 3 (d := d_law_has) rfl).choose_spec
noncomputable abbrev fd_law_fewest (z : Ctx K mg) : FuncData := (z.c.def_ 4 (d := d_law_fewest) rfl).choose
theorem fS_law_fewest (z : Ctx K mg) : FunD K "_law_fewest" "_law_fewest" (defArgs s_law_fewest) (defBody s_law_fewest) (defScope s_law_fewest) [] [] (He.fAd K ("_law_fewest", none)) (fd_law_fewest z) := (z.c.def_ 4 (d := d_law_fewest) rfl).choose_spec
noncomputable abbrev fd_is_whole (z : Ctx K mg) : FuncData := (z.c.def_ 5 (d := d_is_whole) rfl).choose
theorem fS_is_whole (z : Ctx K mg) : FunD K "is_whole" "is_whole" (defArgs s_is_whole) (defBody s_is_whole) (defScope s_is_whole) [] [] (He.fAd K ("is_whole", none)) (fd_is_whole z) := (z.c.def_ 5 (d := d_is_whole) rfl).choose_spec
noncomputable abbrev fd_is_within (z : Ctx K mg) : FuncData := (z.c.def_ 6 (d := d_is_within) rfl).choose
theorem fS_is_within (z : Ctx K mg) : FunD K "is_within" "is_within" (defArgs s_is_within) (defBody s_is_within) (defScope s_is_within) [] [] (He.fAd K ("is_within", none)) (fd_is_within z) := (z.c.def_ 6 (d := d_is_within) rfl).choose_spec
noncomputable abbrev fd_is_stretch (z : Ctx K mg) : FuncData := (z.c.def_ 7 (d := d_is_stretch) rfl).choose
theorem fS_is_stretch (z : Ctx K mg) : FunD K "is_stretch" "is_stretch" (defArgs s_is_stretch) (defBody s_is_stretch) (defScope s_is_stretch) [] [] (He.fAd K ("is_stretch", none)) (fd_is_stretch z) := (z.c.def_ 7 (d := d_is_stretch) rfl).choose_spec
noncomputable abbrev fd_look_stretches (z : Ctx K mg) : FuncData := (z.c.def_ 8 (d := d_look_stretches) rfl).choose
theorem fS_look_stretches (z : Ctx K mg) : FunD K "look_stretches" "look_stretches" (defArgs s_look_stretches) (defBody s_look_stretches) (defScope s_look_stretches) [] [] (He.fAd K ("look_stretches", none)) (fd_look_stretches z) := (z.c.def_ 8 (d := d_look_stretches) rfl).choose_spec
noncomputable abbrev fd_fewest (z : Ctx K mg) : FuncData := (z.c.def_ 9 (d := d_fewest) rfl).choose
theorem fS_fewest (z : Ctx K mg) : FunD K "fewest" "fewest" (defArgs s_fewest) (defBody s_fewest) (defScope s_fewest) [] [] (He.fAd K ("fewest", none)) (fd_fewest z) := (z.c.def_ 9 (d := d_fewest) rfl).choose_spec
noncomputable abbrev fd_Pool_init (z : Ctx K mg) : FuncData := (z.c.def_ 10 (d := d_Pool_init) rfl).choose
theorem fS_Pool_init (z : Ctx K mg) : FunD K "__init__" "Pool.__init__" (defArgs s_Pool_init) (defBody s_Pool_init) (defScope s_Pool_init) [.ref (He.dflAt ("Pool", some "__init__") 0 K)] [] (He.fAd K ("Pool", some "__init__")) (fd_Pool_init z) := (z.c.def_ 10 (d := d_Pool_init) rfl).choose_spec
noncomputable abbrev fd_law_low (z : Ctx K mg) : FuncData := (z.c.def_ 11 (d := d_law_low) rfl).choose
theorem fS_law_low (z : Ctx K mg) : FunD K "_law_low" "_law_low" (defArgs s_law_low) (defBody s_law_low) (defScope s_law_low) [] [] (He.fAd K ("_law_low", none)) (fd_law_low z) := (z.c.def_ 11 (d := d_law_low) rfl).choose_spec
noncomputable abbrev fd_law_first (z : Ctx K mg) : FuncData := (z.c.def_ 12 (d := d_law_first) rfl).choose
theorem fS_law_first (z : Ctx K mg) : FunD K "_law_first" "_law_first" (defArgs s_law_first) (defBody s_law_first) (defScope s_law_first) [] [] (He.fAd K ("_law_first", none)) (fd_law_first z) := (z.c.def_ 12 (d := d_law_first) rfl).choose_spec
noncomputable abbrev fd_law_but (z : Ctx K mg) : FuncData := (z.c.def_ 13 (d := d_law_but) rfl).choose
theorem fS_law_but (z : Ctx K mg) : FunD K "_law_but" "_law_but" (defArgs s_law_but) (defBody s_law_but) (defScope s_law_but) [] [] (He.fAd K ("_law_but", none)) (fd_law_but z) := (z.c.def_ 13 (d := d_law_but) rfl).choose_spec
noncomputable abbrev fd_Pool_first_from (z : Ctx K mg) : FuncData := (z.c.def_ 14 (d := d_Pool_first_from) rfl).choose
theorem fS_Pool_first_from (z : Ctx K mg) : FunD K "first_from" "Pool.first_from" (defArgs s_Pool_first_from) (defBody s_Pool_first_from) (defScope s_Pool_first_from) [.int 0] [("but", .ref (kwAt ("Pool", some "first_from") "but" K))] (He.fAd K ("Pool", some "first_from")) (fd_Pool_first_from z) := (z.c.def_ 14 (d := d_Pool_first_from) rfl).choose_spec
noncomputable abbrev fd_Pool_stretches (z : Ctx K mg) : FuncData := (z.c.def_ 15 (d := d_Pool_stretches) rfl).choose
theorem fS_Pool_stretches (z : Ctx K mg) : FunD K "stretches" "Pool.stretches" (defArgs s_Pool_stretches) (defBody s_Pool_stretches) (defScope s_Pool_stretches) [] [] (He.fAd K ("Pool", some "stretches")) (fd_Pool_stretches z) := (z.c.def_ 15 (d := d_Pool_stretches) rfl).choose_spec
noncomputable abbrev fd_law (z : Ctx K mg) : FuncData := (z.c.def_ 16 (d := d_law) rfl).choose
theorem fS_law (z : Ctx K mg) : FunD K "law" "law" (defArgs s_law) (defBody s_law) (defScope s_law) [] [] (He.fAd K ("law", none)) (fd_law z) := (z.c.def_ 16 (d := d_law) rfl).choose_spec
theorem bd_law_bag_2 (z : Ctx K mg) : Bd K (fd_law_bag z) ["_law_script", "_law_at"] 2 [] [(.us, 0), (.us, 1)] [] [] := by
  exact bd_n (fS_law_bag z) fun _ _ _ _ _ _ us ws h1 h2 => match us, ws, h1, h2 with | [_, _], [], _, _ => rfl
theorem ok_law_bag (z : Ctx K mg) : Fn P w K (Tc K) mg base 1 (He.fAd K ("_law_bag", none)) (fd_law_bag z) ["_law_script", "_law_at"] f_law_bag :=
  Fn.of (N := N_law_bag) (b := b_law_bag) (fS_law_bag z) sc_law_bag fun cdv A outer s H E hr => by
    have sc := sc_law_bag
    have tk : Takes (cxOf (L2.CX P w) P w K mg base N_law_bag "_law_bag" (defScope s_law_bag) (He.fAd K ("_law_bag", none)) cdv A outer s H E) (fun cls d _ H' => E cls d H') := takes_of rfl rfl rfl rfl
    unfold b_law_bag
    exact s_cons (s_set (i := 2) sc.nd (r_op o_add g_add (r_op op_mul g_mul (r_int) (r_var 1)) (r_int))) (s_cons (s_if (t_cmp op_lt g_lt (r_var 1) (r_fn c_len n_len (He.free_ok z.k z.n (z.c.fact 0)) (PySem.boot_len) (r_cons (r_var 0) (r_nil))) (nomark _)) (s_one (s_set (i := 2) sc.nd (r_ix (r_var 0) (r_var 1)))) (s_nil)) (s_one (s_ret (r_lstN (r_cons (r_op op_mul g_mul (r_fn call_abs n_abs (He.free_ok z.k z.n (z.c.fact 36)) (boot_abs) (r_cons (r_var 2) (r_nil))) (r_ty call_int1 n_int (He.free_ok z.k z.n (z.c.fact 29)) (boot_int) (r_cons (r_cmp op_ge g_ge (r_fn call_abs n_abs (He.free_ok z.k z.n (z.c.fact 36)) (boot_abs) (r_cons (r_var 2) (r_nil))) (r_op op_pow2 g_pow (r_int) (r_int)) (nomark _)) (r_nil)))) (r_cons (r_op o_add g_add (r_op op_mod g_mod (r_var 2) (r_int)) (r_op op_mul g_mul (r_int) (r_var 1))) (r_cons (r_int) (r_nil))))))))
theorem bd_law_take_2 (z : Ctx K mg) : Bd K (fd_law_take z) ["_law_bag_here", "_law_many"] 2 [] [(.us, 0), (.us, 1)] [] [] := by
  exact bd_n (fS_law_take z) fun _ _ _ _ _ _ us ws h1 h2 => match us, ws, h1, h2 with | [_, _], [], _, _ => rfl
theorem ok_law_take (z : Ctx K mg) : Fn P w K (Tc K) mg base 1 (He.fAd K ("_law_take", none)) (fd_law_take z) ["_law_bag_here", "_law_many"] f_law_take :=
  Fn.of (N := N_law_take) (b := b_law_take) (fS_law_take z) sc_law_take fun cdv A outer s H E hr => by
    have sc := sc_law_take
    have tk : Takes (cxOf (L2.CX P w) P w K mg base N_law_take "_law_take" (defScope s_law_take) (He.fAd K ("_law_take", none)) cdv A outer s H E) (fun cls d _ H' => E cls d H') := takes_of rfl rfl rfl rfl
    unfold b_law_take
    exact s_cons (s_if (t_cmp op_gt g_gt (r_ix (r_var 0) (r_int)) (r_int) (nomark _)) (s_cons (s_set (i := 2) sc.nd (r_op op_mod g_mod (r_ix (r_var 0) (r_int)) (r_var 1))) (s_cons (s_asg (r_op op_fdivW g_div (r_ix (r_var 0) (r_int)) (r_var 1)) (g_ixs (r_var 0) (r_int))) (s_one (s_ret (r_var 2))))) (s_nil)) (s_cons (s_set (i := 3) sc.nd (r_tup (r_cons (r_int) (r_cons (r_int) (r_cons (r_int) (r_cons (r_int) (r_cons (r_int) (r_cons (r_int) (r_cons (r_int) (r_cons (r_int) (r_nil))))))))))) (s_cons (s_asg (r_op o_add g_add (r_ix (r_var 0) (r_int)) (r_int)) (g_ixs (r_var 0) (r_int))) (s_cons (s_set (i := 4) sc.nd (r_ix (r_var 0) (r_int))) (s_cons (s_set (i := 5) sc.nd (r_op o_add g_add (r_op op_mul g_mul (r_op o_add g_add (r_ix (r_var 0) (r_int)) (r_int)) (r_op o_add g_add (r_op op_mul g_mul (r_int) (r_var 4)) (r_int))) (r_op op_mul g_mul (r_op op_mul g_mul (r_int) (r_var 4)) (r_var 4)))) (s_cons (s_set (i := 6) sc.nd (r_op op_mod g_mod (r_op op_pow2 g_pow (r_var 5) (r_int)) (r_ix (r_var 3) (r_op op_mod g_mod (r_var 4) (r_int))))) (s_one (s_ret (r_op op_mod g_mod (r_op op_fdivW g_div (r_op op_mod g_mod (r_op op_mul g_mul (r_var 6) (r_op o_add g_add (r_op op_fdivW g_div (r_var 6) (r_int)) (r_int))) (r_ix (r_var 3) (r_op op_mod g_mod (r_op o_add g_add (r_var 4) (r_int)) (r_int)))) (r_int)) (r_var 1)))))))))
theorem bd_law_stretches_2 (z : Ctx K mg) : Bd K (fd_law_stretches z) ["_law_bag_here", "_law_most"] 2 [] [(.us, 0), (.us, 1)] [] [] := by
  exact bd_n (fS_law_stretches z) fun _ _ _ _ _ _ us ws h1 h2 => match us, ws, h1, h2 with | [_, _], [], _, _ => rfl
theorem ok_law_stretches (z : Ctx K mg) : Fn P w K (Tc K) mg base 2 (He.fAd K ("_law_stretches", none)) (fd_law_stretches z) ["_law_bag_here", "_law_most"] f_law_stretches :=
  Fn.of (N := N_law_stretches) (b := b_law_stretches) (fS_law_stretches z) sc_law_stretches fun cdv A outer s H E hr => by
    have sc := sc_law_stretches
    have tk : Takes (cxOf (L2.CX P w) P w K mg base N_law_stretches "_law_stretches" (defScope s_law_stretches) (He.fAd K ("_law_stretches", none)) cdv A outer s H E) (fun cls d _ H' => E cls d H') := takes_of rfl rfl rfl rfl
    unfold b_law_stretches
    exact s_cons (s_set (i := 2) sc.nd (r_ix (r_lst (r_cons (r_int) (r_cons (r_int) (r_cons (r_int) (r_cons (r_int) (r_nil)))))) (r_call tk (ok_law_take z) (hr.mono (by decide)) (He.glo_ok z.k z.n (z.c.fact 31)) (fS_law_take z).kp (bd_law_take_2 z) rl0 rl0 (caPm (r_cons (r_var 0) (r_cons (r_int) (r_nil))))))) (s_cons (s_set (i := 3) sc.nd (r_ix (r_lst (r_cons (r_int) (r_cons (r_int) (r_cons (r_int) (r_cons (r_int) (r_nil)))))) (r_call tk (ok_law_take z) (hr.mono (by decide)) (He.glo_ok z.k z.n (z.c.fact 31)) (fS_law_take z).kp (bd_law_take_2 z) rl0 rl0 (caPm (r_cons (r_var 0) (r_cons (r_int) (r_nil))))))) (s_cons (s_set (i := 4) sc.nd (r_lstN (r_nil))) (s_cons (s_for (passes_of rfl) rfl (i_rng1 (He.free_ok z.k z.n (z.c.fact 3)) (r_call tk (ok_law_take z) (hr.mono (by decide)) (He.glo_ok z.k z.n (z.c.fact 31)) (fS_law_take z).kp (bd_law_take_2 z) rl0 rl0 (caPm (r_cons (r_var 0) (r_cons (r_ix (r_lst (r_cons (r_int) (r_cons (r_op o_add g_add (r_var 1) (r_int)) (r_nil)))) (r_call tk (ok_law_take z) (hr.mono (by decide)) (He.glo_ok z.k z.n (z.c.fact 31)) (fS_law_take z).kp (bd_law_take_2 z) rl0 rl0 (caPm (r_cons (r_var 0) (r_cons (r_int) (r_nil)))))) (r_nil)))))) (g_nm (i := 5) sc.nd) (s_cons (s_set (i := 6) sc.nd (r_call tk (ok_law_take z) (hr.mono (by decide)) (He.glo_ok z.k z.n (z.c.fact 31)) (fS_law_take z).kp (bd_law_take_2 z) rl0 rl0 (caPm (r_cons (r_var 0) (r_cons (r_var 2) (r_nil)))))) (s_cons (s_if (t_pw (w_and (t_cmp (o_ne hr) g_ne (r_var 4) (r_lst (r_nil)) (nomark _)) (w_and1 (t_cmp (o_eq hr) g_eq (r_call tk (ok_law_take z) (hr.mono (by decide)) (He.glo_ok z.k z.n (z.c.fact 31)) (fS_law_take z).kp (bd_law_take_2 z) rl0 rl0 (caPm (r_cons (r_var 0) (r_cons (r_int) (r_nil))))) (r_int) (nomark _))))) (s_one (s_set (i := 6) sc.nd (r_fn (call_min2 rfl) n_min2 (He.free_ok z.k z.n (z.c.fact 1)) (boot_min) (r_cons (r_int) (r_cons (r_op o_add g_add (r_ix (r_ix (r_var 4) (r_un un_neg g_neg (r_int))) (r_int)) (r_call tk (ok_law_take z) (hr.mono (by decide)) (He.glo_ok z.k z.n (z.c.fact 31)) (fS_law_take z).kp (bd_law_take_2 z) rl0 rl0 (caPm (r_cons (r_var 0) (r_cons (r_int) (r_nil)))))) (r_nil)))))) (s_nil)) (s_one (s_exp (r_bm PySem.F.plainAttrs_list PySem.F.slot_list_append PySem.F.type_list_append (fun _ _ _ _ _ _ _ _ _ => mt_append _ _ _ _ _ _ _ _ _) (by unfold BmOk; decide) m_append (r_var 4) (r_cons (r_tup (r_cons (r_var 6) (r_cons (r_fn (call_min2 rfl) n_min2 (He.free_ok z.k z.n (z.c.fact 1)) (boot_min) (r_cons (r_int) (r_cons (r_op o_add g_add (r_var 6) (r_call tk (ok_law_take z) (hr.mono (by decide)) (He.glo_ok z.k z.n (z.c.fact 31)) (fS_law_take z).kp (bd_law_take_2 z) rl0 rl0 (caPm (r_cons (r_var 0) (r_cons (r_var 3) (r_nil)))))) (r_nil)))) (r_nil)))) (r_nil)))))))) (s_one (s_ret (r_ty call_tuple_of n_tuple (He.free_ok z.k z.n (z.c.fact 20)) (PyProof.Rows.boot_tuple) (r_cons (r_var 4) (r_nil))))))))
theorem bd_law_has_2 (z : Ctx K mg) : Bd K (fd_law_has z) ["_law_rows", "_law_number"] 2 [] [(.us, 0), (.us, 1)] [] [] := by
  exact bd_n (fS_law_has z) fun _ _ _ _ _ _ us ws h1 h2 => match us, ws, h1, h2 with | [_, _], [], _, _ => rfl
theorem ok_law_has (z : Ctx K mg) : Fn P w K (Tc K) mg base 1 (He.fAd K ("_law_has", none)) (fd_law_has z) ["_law_rows", "_law_number"] f_law_has :=
  Fn.of (N := N_law_has) (b := b_law_has) (fS_law_has z) sc_law_has fun cdv A outer s H E hr => by
    have sc := sc_law_has
    have tk : Takes (cxOf (L2.CX P w) P w K mg base N_law_has "_law_has" (defScope s_law_has) (He.fAd K ("_law_has", none)) cdv A outer s H E) (fun cls d _ H' => E cls d H') := takes_of rfl rfl rfl rfl
    unfold b_law_has
    exact s_one (s_ret (r_fn (cr_any rfl) n_any (He.free_ok z.k z.n (z.c.fact 35)) (boot_any) (r_cons (r_comp rfl sc.nd (own := [("_law_begin", 2), ("_law_end", 3)]) (g := (.tup [2, 3])) (i_seq (r_var 0)) (blkOk_by (N := N_law_has) (sc := defScope s_law_has) (by decide +kernel)) (fun _ _ _ _ _ => pg_tup rfl (pgs_cons (pg_name (i := 2) sc.nd rfl (Or.inl rfl)) (pgs_cons (pg_name (i := 3) sc.nd rfl (Or.inl rfl)) pgs_nil))) (fun _ _ _ _ _ => ts_nil) (fun _ _ _ _ _ => r_chain op_le g_le op_le g_le (r_var 2) (r_var 1) (r_var 3))) (r_nil))))
theorem bd_law_fewest_1 (z : Ctx K mg) : Bd K (fd_law_fewest z) ["_law_rows"] 1 [] [(.us, 0)] [] [] := by
  exact bd_n (fS_law_fewest z) fun _ _ _ _ _ _ us ws h1 h2 => match us, ws, h1, h2 with | [_], [], _, _ => rfl
theorem ok_law_fewest (z : Ctx K mg) : Fn P w K (Tc K) mg base 2 (He.fAd K ("_law_fewest", none)) (fd_law_fewest z) ["_law_rows"] f_law_fewest :=
  Fn.of (N := N_law_fewest) (b := b_law_fewest) (fS_law_fewest z) sc_law_fewest fun cdv A outer s H E hr => by
    have sc := sc_law_fewest
    have tk : Takes (cxOf (L2.CX P w) P w K mg base N_law_fewest "_law_fewest" (defScope s_law_fewest) (He.fAd K ("_law_fewest", none)) cdv A outer s H E) (fun cls d _ H' => E cls d H') := takes_of rfl rfl rfl rfl
    unfold b_law_fewest
    exact s_cons (s_set (i := 1) sc.nd (r_sortSet rfl (He.free_ok z.k z.n (z.c.fact 19)) (He.free_ok z.k z.n (z.c.fact 33)) (r_cons (r_comp rfl sc.nd (own := [("_law_begin", 3), ("_law_end", 4)]) (g := (.tup [3, 4])) (i_seq (r_var 0)) (blkOk_by (N := N_law_fewest) (sc := defScope s_law_fewest) (by decide +kernel)) (fun _ _ _ _ _ => pg_tup rfl (pgs_cons (pg_name (i := 3) sc.nd rfl (Or.inl rfl)) (pgs_cons (pg_name (i := 4) sc.nd rfl (Or.inl rfl)) pgs_nil))) (fun _ _ _ _ _ => ts_one (t_not (t_truth (r_call takes0 (ok_law_has z) (hr.mono (by decide)) (He.glo_ok z.k z.n (z.c.fact 32)) (fS_law_has z).kp (bd_law_has_2 z) rl0 rl0 (caPm (r_cons (r_var 0) (r_cons (r_op op_sub g_sub (r_var 3) (r_int)) (r_nil)))))))) (fun _ _ _ _ _ => r_var 3)) (r_nil)))) (s_cons (s_set (i := 2) sc.nd (r_sortSet rfl (He.free_ok z.k z.n (z.c.fact 19)) (He.free_ok z.k z.n (z.c.fact 33)) (r_cons (r_comp rfl sc.nd (own := [("_law_begin", 3), ("_law_end", 4)]) (g := (.tup [3, 4])) (i_seq (r_var 0)) (blkOk_by (N := N_law_fewest) (sc := defScope s_law_fewest) (by decide +kernel)) (fun _ _ _ _ _ => pg_tup rfl (pgs_cons (pg_name (i := 3) sc.nd rfl (Or.inl rfl)) (pgs_cons (pg_name (i := 4) sc.nd rfl (Or.inl rfl)) pgs_nil))) (fun _ _ _ _ _ => ts_one (t_not (t_truth (r_call takes0 (ok_law_has z) (hr.mono (by decide)) (He.glo_ok z.k z.n (z.c.fact 32)) (fS_law_has z).kp (bd_law_has_2 z) rl0 rl0 (caPm (r_cons (r_var 0) (r_cons (r_op o_add g_add (r_var 4) (r_int)) (r_nil)))))))) (fun _ _ _ _ _ => r_var 4)) (r_nil)))) (s_one (s_ret (r_ty call_tuple_of n_tuple (He.free_ok z.k z.n (z.c.fact 20)) (PyProof.Rows.boot_tuple) (r_cons (r_comp rfl sc.nd (own := [("_law_begin", 3), ("_law_end", 4)]) (g := (.tup [3, 4])) (i_zip (He.free_ok z.k z.n (z.c.fact 34)) (r_cons (r_var 1) (r_cons (r_var 2) (r_nil)))) (blkOk_by (N := N_law_fewest) (sc := defScope s_law_fewest) (by decide +kernel)) (fun _ _ _ _ _ => pg_tup rfl (pgs_cons (pg_name (i := 3) sc.nd rfl (Or.inl rfl)) (pgs_cons (pg_name (i := 4) sc.nd rfl (Or.inl rfl)) pgs_nil))) (fun _ _ _ _ _ => ts_nil) (fun _ _ _ _ _ => r_tup (r_cons (r_var 3) (r_cons (r_var 4) (r_nil))))) (r_nil))))))
theorem bd_is_whole_1 (z : Ctx K mg) : Bd K (fd_is_whole z) ["thing"] 1 [] [(.us, 0)] [] [] := by
  exact bd_n (fS_is_whole z) fun _ _ _ _ _ _ us ws h1 h2 => match us, ws, h1, h2 with | [_], [], _, _ => rfl
theorem ok_is_whole (z : Ctx K mg) : Fn P w K (Tc K) mg base 1 (He.fAd K ("is_whole", none)) (fd_is_whole z) ["thing"] f_is_whole :=
  Fn.of (N := N_is_whole) (b := b_is_whole) (fS_is_whole z) sc_is_whole fun cdv A outer s H E hr => by
    have sc := sc_is_whole
    have tk : Takes (cxOf (L2.CX P w) P w K mg base N_is_whole "is_whole" (defScope s_is_whole) (He.fAd K ("is_whole", none)) cdv A outer s H E) (fun cls d _ H' => E cls d H') := takes_of rfl rfl rfl rfl
    unfold b_is_whole
    exact s_one (s_ret (r_and (r_isi ii_int (He.free_ok z.k z.n (z.c.fact 21)) (He.free_ok z.k z.n (z.c.fact 29)) boot_int (r_var 0)) (r_one (r_not (r_isi ii_bool (He.free_ok z.k z.n (z.c.fact 21)) (He.free_ok z.k z.n (z.c.fact 30)) boot_bool (r_var 0))))))
theorem bd_is_within_3 (z : Ctx K mg) : Bd K (fd_is_within z) ["thing", "least", "most"] 3 [] [(.us, 0), (.us, 1), (.us, 2)] [] [] := by
  exact bd_n (fS_is_within z) fun _ _ _ _ _ _ us ws h1 h2 => match us, ws, h1, h2 with | [_, _, _], [], _, _ => rfl
theorem ok_is_within (z : Ctx K mg) : Fn P w K (Tc K) mg base 2 (He.fAd K ("is_within", none)) (fd_is_within z) ["thing", "least", "most"] f_is_within :=
  Fn.of (N := N_is_within) (b := b_is_within) (fS_is_within z) sc_is_within fun cdv A outer s H E hr => by
    have sc := sc_is_within
    have tk : Takes (cxOf (L2.CX P w) P w K mg base N_is_within "is_within" (defScope s_is_within) (He.fAd K ("is_within", none)) cdv A outer s H E) (fun cls d _ H' => E cls d H') := takes_of rfl rfl rfl rfl
    unfold b_is_within
    exact s_one (s_ret (r_and (r_call tk (ok_is_whole z) (hr.mono (by decide)) (He.glo_ok z.k z.n (z.c.fact 28)) (fS_is_whole z).kp (bd_is_whole_1 z) rl0 rl0 (caPm (r_cons (r_var 0) (r_nil)))) (r_one (r_chain op_le g_le op_le g_le (r_var 1) (r_var 0) (r_var 2)))))
theorem bd_is_stretch_1 (z : Ctx K mg) : Bd K (fd_is_stretch z) ["thing"] 1 [] [(.us, 0)] [] [] := by
  exact bd_n (fS_is_stretch z) fun _ _ _ _ _ _ us ws h1 h2 => match us, ws, h1, h2 with | [_], [], _, _ => rfl
theorem ok_is_stretch (z : Ctx K mg) : Fn P w K (Tc K) mg base 3 (He.fAd K ("is_stretch", none)) (fd_is_stretch z) ["thing"] f_is_stretch :=
  Fn.of (N := N_is_stretch) (b := b_is_stretch) (fS_is_stretch z) sc_is_stretch fun cdv A outer s H E hr => by
    have sc := sc_is_stretch
    have tk : Takes (cxOf (L2.CX P w) P w K mg base N_is_stretch "is_stretch" (defScope s_is_stretch) (He.fAd K ("is_stretch", none)) cdv A outer s H E) (fun cls d _ H' => E cls d H') := takes_of rfl rfl rfl rfl
    unfold b_is_stretch
    exact s_cons (s_if (t_pw (w_or (t_not (t_truth (r_isi ii_tuple (He.free_ok z.k z.n (z.c.fact 21)) (He.free_ok z.k z.n (z.c.fact 20)) boot_tuple (r_var 0)))) (w_or1 (t_cmp (o_ne hr) g_ne (r_fn c_len n_len (He.free_ok z.k z.n (z.c.fact 0)) (PySem.boot_len) (r_cons (r_var 0) (r_nil))) (r_int) (nomark _))))) (s_one (s_ret (r_bl))) (s_nil)) (s_one (s_ret (r_and (r_fn (cr_all rfl) n_all (He.free_ok z.k z.n (z.c.fact 27)) (boot_all) (r_cons (r_comp rfl sc.nd (own := [("number", 1)]) (g := (.one 1)) (i_seq (r_var 0)) (blkOk_by (N := N_is_stretch) (sc := defScope s_is_stretch) (by decide +kernel)) (fun _ _ _ _ _ => pg_name (i := 1) sc.nd rfl (Or.inl rfl)) (fun _ _ _ _ _ => ts_nil) (fun _ _ _ _ _ => r_call takes0 (ok_is_within z) (hr.mono (by decide)) (He.glo_ok z.k z.n (z.c.fact 26)) (fS_is_within z).kp (bd_is_within_3 z) rl0 rl0 (caPm (r_cons (r_var 1) (r_cons (r_int) (r_cons (glob_int (He.int_ok z.k z.n (z.c.fact 25))) (r_nil))))))) (r_nil))) (r_one (r_cmp op_le g_le (r_ix (r_var 0) (r_int)) (r_ix (r_var 0) (r_int)) (nomark _))))))
theorem bd_look_stretches_1 (z : Ctx K mg) : Bd K (fd_look_stretches z) ["thing"] 1 [] [(.us, 0)] [] [] := by
  exact bd_n (fS_look_stretches z) fun _ _ _ _ _ _ us ws h1 h2 => match us, ws, h1, h2 with | [_], [], _, _ => rfl
theorem ok_look_stretches (z : Ctx K mg) : Fn P w K (Tc K) mg base 4 (He.fAd K ("look_stretches", none)) (fd_look_stretches z) ["thing"] f_look_stretches :=
  Fn.of (N := N_look_stretches) (b := b_look_stretches) (fS_look_stretches z) sc_look_stretches fun cdv A outer s H E hr => by
    have sc := sc_look_stretches
    have tk : Takes (cxOf (L2.CX P w) P w K mg base N_look_stretches "look_stretches" (defScope s_look_stretches) (He.fAd K ("look_stretches", none)) cdv A outer s H E) (fun cls d _ H' => E cls d H') := takes_of rfl rfl rfl rfl
    unfold b_look_stretches
    exact s_cons (s_if (t_pw (w_or (t_not (t_truth (r_isi ii_tuple (He.free_ok z.k z.n (z.c.fact 21)) (He.free_ok z.k z.n (z.c.fact 20)) boot_tuple (r_var 0)))) (w_or1 (t_cmp op_gt g_gt (r_fn c_len n_len (He.free_ok z.k z.n (z.c.fact 0)) (PySem.boot_len) (r_cons (r_var 0) (r_nil))) (glob_int (He.int_ok z.k z.n (z.c.fact 22))) (nomark _))))) (s_one (s_dead)) (s_nil)) (s_one (s_for (passes_of rfl) rfl (i_enumA (He.free_ok z.k z.n (z.c.fact 23)) (r_cons (r_var 0) (r_nil))) (g_tp rfl (gs_cons (g_nm (i := 1) sc.nd) (gs_cons (g_nm (i := 2) sc.nd) (gs_nil)))) (s_one (s_if (t_not (t_truth (r_call tk (ok_is_stretch z) (hr.mono (by decide)) (He.glo_ok z.k z.n (z.c.fact 24)) (fS_is_stretch z).kp (bd_is_stretch_1 z) rl0 rl0 (caPm (r_cons (r_var 2) (r_nil)))))) (s_one (s_dead)) (s_nil)))))
theorem bd_fewest_1 (z : Ctx K mg) : Bd K (fd_fewest z) ["stretches"] 1 [] [(.us, 0)] [] [] := by
  exact bd_n (fS_fewest z) fun _ _ _ _ _ _ us ws h1 h2 => match us, ws, h1, h2 with | [_], [], _, _ => rfl
theorem ok_fewest (z : Ctx K mg) : Fn P w K (Tc K) mg base 1 (He.fAd K ("fewest", none)) (fd_fewest z) ["stretches"] f_fewest :=
  Fn.of (N := N_fewest) (b := b_fewest) (fS_fewest z) sc_fewest fun cdv A outer s H E hr => by
    have sc := sc_fewest
    have tk : Takes (cxOf (L2.CX P w) P w K mg base N_fewest "fewest" (defScope s_fewest) (He.fAd K ("fewest", none)) cdv A outer s H E) (fun cls d _ H' => E cls d H') := takes_of rfl rfl rfl rfl
    unfold b_fewest
    exact s_cons (s_set (i := 1) sc.nd (r_lstN (r_nil))) (s_cons (s_for (passes_of rfl) rfl (i_seq (r_fn cr_sortP2 n_sortP (He.free_ok z.k z.n (z.c.fact 19)) (PyProof.Rows.boot_sorted) (r_cons (r_var 0) (r_nil)))) (g_tp rfl (gs_cons (g_nm (i := 2) sc.nd) (gs_cons (g_nm (i := 3) sc.nd) (gs_nil)))) (s_one (s_if (t_pw (w_and (t_cmp (o_ne hr) g_ne (r_var 1) (r_lst (r_nil)) (nomark _)) (w_and1 (t_cmp op_le g_le (r_var 2) (r_op o_add g_add (r_ix (r_ix (r_var 1) (r_un un_neg g_neg (r_int))) (r_int)) (r_int)) (nomark _))))) (s_one (s_asg (r_tup (r_cons (r_ix (r_ix (r_var 1) (r_un un_neg g_neg (r_int))) (r_int)) (r_cons (r_fn (call_max2 rfl) n_max2 (He.free_ok z.k z.n (z.c.fact 2)) (boot_max) (r_cons (r_ix (r_ix (r_var 1) (r_un un_neg g_neg (r_int))) (r_int)) (r_cons (r_var 3) (r_nil)))) (r_nil)))) (g_ixs (r_var 1) (r_un un_neg g_neg (r_int))))) (s_one (s_exp (r_bm PySem.F.plainAttrs_list PySem.F.slot_list_append PySem.F.type_list_append (fun _ _ _ _ _ _ _ _ _ => mt_append _ _ _ _ _ _ _ _ _) (by unfold BmOk; decide) m_append (r_var 1) (r_cons (r_tup (r_cons (r_var 2) (r_cons (r_var 3) (r_nil)))) (r_nil)))))))) (s_one (s_ret (r_ty call_tuple_of n_tuple (He.free_ok z.k z.n (z.c.fact 20)) (PyProof.Rows.boot_tuple) (r_cons (r_var 1) (r_nil))))))
theorem bd_Pool_init_2 (z : Ctx K mg) : Bd K (fd_Pool_init z) ["self", "stretches"] 2 [] [(.us, 0), (.us, 1)] [.ref (He.dflAt ("Pool", some "__init__") 0 K)] [] := by
  exact bd_d (fS_Pool_init z) (by simp) fun _ _ _ _ _ _ _ us its ws h1 h2 h3 => match us, its, ws, h1, h2, h3 with | [_, _], [_], [], _, _, _ => ⟨_, rfl, rfl⟩
theorem bd_Pool_init_1 (z : Ctx K mg) : Bd K (fd_Pool_init z) ["self", "stretches"] 1 [] [(.us, 0), (.its, 0)] [.ref (He.dflAt ("Pool", some "__init__") 0 K)] [] := by
  exact bd_d (fS_Pool_init z) (by simp) fun _ _ _ _ _ _ _ us its ws h1 h2 h3 => match us, its, ws, h1, h2, h3 with | [_], [_], [], _, _, _ => ⟨_, rfl, rfl⟩
theorem ok_Pool_init (z : Ctx K mg) : Fn P w K (Tc K) mg base 5 (He.fAd K ("Pool", some "__init__")) (fd_Pool_init z) ["self", "stretches"] f_Pool_init :=
  Fn.of (N := N_Pool_init) (b := b_Pool_init) (fS_Pool_init z) sc_Pool_init fun cdv A outer s H E hr => by
    have sc := sc_Pool_init
    have tk : Takes (cxOf (L2.CX P w) P w K mg base N_Pool_init "Pool.__init__" (defScope s_Pool_init) (He.fAd K ("Pool", some "__init__")) cdv A outer s H E) (fun cls d _ H' => E cls d H') := takes_of rfl rfl rfl rfl
    unfold b_Pool_init
    exact s_cons (s_exp (r_call tk (ok_look_stretches z) (hr.mono (by decide)) (He.glo_ok z.k z.n (z.c.fact 17)) (fS_look_stretches z).kp (bd_look_stretches_1 z) rl0 rl0 (caPm (r_cons (r_var 1) (r_nil))))) (s_one (s_fld (z.f_kept) (r_var 0) (r_call tk (ok_fewest z) (hr.mono (by decide)) (He.glo_ok z.k z.n (z.c.fact 18)) (fS_fewest z).kp (bd_fewest_1 z) rl0 rl0 (caPm (r_cons (r_var 1) (r_nil))))))
theorem bd_law_low_2 (z : Ctx K mg) : Bd K (fd_law_low z) ["_law_bag_here", "_law_shortest"] 2 [] [(.us, 0), (.us, 1)] [] [] := by
  exact bd_n (fS_law_low z) fun _ _ _ _ _ _ us ws h1 h2 => match us, ws, h1, h2 with | [_, _], [], _, _ => rfl
theorem ok_law_low (z : Ctx K mg) : Fn P w K (Tc K) mg base 2 (He.fAd K ("_law_low", none)) (fd_law_low z) ["_law_bag_here", "_law_shortest"] f_law_low :=
  Fn.of (N := N_law_low) (b := b_law_low) (fS_law_low z) sc_law_low fun cdv A outer s H E hr => by
    have sc := sc_law_low
    have tk : Takes (cxOf (L2.CX P w) P w K mg base N_law_low "_law_low" (defScope s_law_low) (He.fAd K ("_law_low", none)) cdv A outer s H E) (fun cls d _ H' => E cls d H') := takes_of rfl rfl rfl rfl
    unfold b_law_low
    exact s_cons (s_if (t_pw (w_and (t_cmp (o_ne hr) g_ne (r_var 1) (r_tup (r_nil)) (nomark _)) (w_and1 (t_cmp op_gt g_gt (r_call tk (ok_law_take z) (hr.mono (by decide)) (He.glo_ok z.k z.n (z.c.fact 31)) (fS_law_take z).kp (bd_law_take_2 z) rl0 rl0 (caPm (r_cons (r_var 0) (r_cons (r_int) (r_nil))))) (r_int) (nomark _))))) (s_one (s_ret (r_op op_sub g_sub (r_op o_add g_add (r_ix (r_ix (r_var 1) (r_call tk (ok_law_take z) (hr.mono (by decide)) (He.glo_ok z.k z.n (z.c.fact 31)) (fS_law_take z).kp (bd_law_take_2 z) rl0 rl0 (caPm (r_cons (r_var 0) (r_cons (r_fn c_len n_len (He.free_ok z.k z.n (z.c.fact 0)) (PySem.boot_len) (r_cons (r_var 1) (r_nil))) (r_nil)))))) (r_call tk (ok_law_take z) (hr.mono (by decide)) (He.glo_ok z.k z.n (z.c.fact 31)) (fS_law_take z).kp (bd_law_take_2 z) rl0 rl0 (caPm (r_cons (r_var 0) (r_cons (r_int) (r_nil)))))) (r_call tk (ok_law_take z) (hr.mono (by decide)) (He.glo_ok z.k z.n (z.c.fact 31)) (fS_law_take z).kp (bd_law_take_2 z) rl0 rl0 (caPm (r_cons (r_var 0) (r_cons (r_int) (r_nil)))))) (r_int)))) (s_nil)) (s_one (s_ret (r_op op_mul g_mul (r_ix (r_lst (r_cons (r_int) (r_cons (r_un un_neg g_neg (r_int)) (r_nil)))) (r_call tk (ok_law_take z) (hr.mono (by decide)) (He.glo_ok z.k z.n (z.c.fact 31)) (fS_law_take z).kp (bd_law_take_2 z) rl0 rl0 (caPm (r_cons (r_var 0) (r_cons (r_int) (r_nil)))))) (r_call tk (ok_law_take z) (hr.mono (by decide)) (He.glo_ok z.k z.n (z.c.fact 31)) (fS_law_take z).kp (bd_law_take_2 z) rl0 rl0 (caPm (r_cons (r_var 0) (r_cons (r_ix (r_lst (r_cons (r_int) (r_cons (r_op op_pow2 g_pow (r_int) (r_int)) (r_cons (r_op op_pow2 g_pow (r_int) (r_int)) (r_nil))))) (r_call tk (ok_law_take z) (hr.mono (by decide)) (He.glo_ok z.k z.n (z.c.fact 31)) (fS_law_take z).kp (bd_law_take_2 z) rl0 rl0 (caPm (r_cons (r_var 0) (r_cons (r_int) (r_nil)))))) (r_nil))))))))
theorem bd_law_first_3 (z : Ctx K mg) : Bd K (fd_law_first z) ["_law_shortest", "_law_least", "_law_bars"] 3 [] [(.us, 0), (.us, 1), (.us, 2)] [] [] := by
  exact bd_n (fS_law_first z) fun _ _ _ _ _ _ us ws h1 h2 => match us, ws, h1, h2 with | [_, _, _], [], _, _ => rfl
theorem ok_law_first (z : Ctx K mg) : Fn P w K (Tc K) mg base 1 (He.fAd K ("_law_first", none)) (fd_law_first z) ["_law_shortest", "_law_least", "_law_bars"] f_law_first :=
  Fn.of (N := N_law_first) (b := b_law_first) (fS_law_first z) sc_law_first fun cdv A outer s H E hr => by
    have sc := sc_law_first
    have tk : Takes (cxOf (L2.CX P w) P w K mg base N_law_first "_law_first" (defScope s_law_first) (He.fAd K ("_law_first", none)) cdv A outer s H E) (fun cls d _ H' => E cls d H') := takes_of rfl rfl rfl rfl
    unfold b_law_first
    exact s_cons (s_for (passes_of rfl) rfl (i_seq (r_var 0)) (g_tp rfl (gs_cons (g_nm (i := 3) sc.nd) (gs_cons (g_nm (i := 4) sc.nd) (gs_nil)))) (s_cons (s_set (i := 5) sc.nd (r_fn (call_max2 rfl) n_max2 (He.free_ok z.k z.n (z.c.fact 2)) (boot_max) (r_cons (r_var 3) (r_cons (r_var 1) (r_nil))))) (s_cons (s_comp (i := 6) rfl sc.nd (own := [("_law_number", 7)]) (g := (.one 7)) (i_rng2 (He.free_ok z.k z.n (z.c.fact 3)) (r_var 5) (r_op o_add g_add (r_fn (call_min2 rfl) n_min2 (He.free_ok z.k z.n (z.c.fact 1)) (boot_min) (r_cons (r_var 4) (r_cons (r_op o_add g_add (r_var 5) (r_fn c_len n_len (He.free_ok z.k z.n (z.c.fact 0)) (PySem.boot_len) (r_cons (r_var 2) (r_nil)))) (r_nil)))) (r_int))) (blkOk_by (N := N_law_first) (sc := defScope s_law_first) (by decide +kernel)) (fun _ _ _ _ _ => pg_name (i := 7) sc.nd rfl (Or.inl rfl)) (fun _ _ _ _ _ => ts_one (t_cmp op_notIn_seq g_notIn (r_var 7) (r_var 2) (by rfl))) (fun _ _ _ _ _ => r_var 7) (sw_true rfl rfl rfl (by decide +kernel))) (s_one (s_if (t_cmp (o_ne hr) g_ne (r_var 6) (r_lst (r_nil)) (nomark _)) (s_one (s_ret (r_ix (r_var 6) (r_int)))) (s_nil)))))) (s_one (s_ret (r_non)))
theorem bd_law_but_3 (z : Ctx K mg) : Bd K (fd_law_but z) ["_law_bag_here", "_law_shortest", "_law_begin"] 3 [] [(.us, 0), (.us, 1), (.us, 2)] [] [] := by
  exact bd_n (fS_law_but z) fun _ _ _ _ _ _ us ws h1 h2 => match us, ws, h1, h2 with | [_, _, _], [], _, _ => rfl
theorem ok_law_but (z : Ctx K mg) : Fn P w K (Tc K) mg base 2 (He.fAd K ("_law_but", none)) (fd_law_but z) ["_law_bag_here", "_law_shortest", "_law_begin"] f_law_but :=
  Fn.of (N := N_law_but) (b := b_law_but) (fS_law_but z) sc_law_but fun cdv A outer s H E hr => by
    have sc := sc_law_but
    have tk : Takes (cxOf (L2.CX P w) P w K mg base N_law_but "_law_but" (defScope s_law_but) (He.fAd K ("_law_but", none)) cdv A outer s H E) (fun cls d _ H' => E cls d H') := takes_of rfl rfl rfl rfl
    unfold b_law_but
    exact s_cons (s_set (i := 3) sc.nd (r_lstN (r_nil))) (s_cons (s_set (i := 4) sc.nd (r_var 2)) (s_cons (s_for (passes_of rfl) rfl (i_rng1 (He.free_ok z.k z.n (z.c.fact 3)) (r_call tk (ok_law_take z) (hr.mono (by decide)) (He.glo_ok z.k z.n (z.c.fact 31)) (fS_law_take z).kp (bd_law_take_2 z) rl0 rl0 (caPm (r_cons (r_var 0) (r_cons (r_ix (r_lst (r_cons (r_int) (r_cons (r_int) (r_cons (r_int) (r_nil))))) (r_call tk (ok_law_take z) (hr.mono (by decide)) (He.glo_ok z.k z.n (z.c.fact 31)) (fS_law_take z).kp (bd_law_take_2 z) rl0 rl0 (caPm (r_cons (r_var 0) (r_cons (r_int) (r_nil)))))) (r_nil)))))) (g_nm (i := 5) sc.nd) (s_cons (s_set (i := 6) sc.nd (r_call tk (ok_law_first z) (hr.mono (by decide)) (He.glo_ok z.k z.n (z.c.fact 11)) (fS_law_first z).kp (bd_law_first_3 z) rl0 rl0 (caPm (r_cons (r_var 1) (r_cons (r_var 4) (r_cons (r_tup (r_nil)) (r_nil))))))) (s_cons (s_if (t_pw (w_or (t_cmp op_isN g_is (r_var 6) (r_non) (nomark _)) (w_or1 (t_cmp (o_eq hr) g_eq (r_call tk (ok_law_take z) (hr.mono (by decide)) (He.glo_ok z.k z.n (z.c.fact 31)) (fS_law_take z).kp (bd_law_take_2 z) rl0 rl0 (caPm (r_cons (r_var 0) (r_cons (r_int) (r_nil))))) (r_int) (nomark _))))) (s_one (s_set (i := 6) sc.nd (r_call tk (ok_law_take z) (hr.mono (by decide)) (He.glo_ok z.k z.n (z.c.fact 31)) (fS_law_take z).kp (bd_law_take_2 z) rl0 rl0 (caPm (r_cons (r_var 0) (r_cons (r_op op_pow2 g_pow (r_int) (r_int)) (r_nil))))))) (s_nil)) (s_cons (s_exp (r_bm PySem.F.plainAttrs_list PySem.F.slot_list_append PySem.F.type_list_append (fun _ _ _ _ _ _ _ _ _ => mt_append _ _ _ _ _ _ _ _ _) (by unfold BmOk; decide) m_append (r_var 3) (r_cons (r_var 6) (r_nil)))) (s_one (s_set (i := 4) sc.nd (r_if (t_cmp op_gt g_gt (r_call tk (ok_law_take z) (hr.mono (by decide)) (He.glo_ok z.k z.n (z.c.fact 31)) (fS_law_take z).kp (bd_law_take_2 z) rl0 rl0 (caPm (r_cons (r_var 0) (r_cons (r_int) (r_nil))))) (r_int) (nomark _)) (r_op o_add g_add (r_var 6) (r_int)) (r_var 2)))))))) (s_cons (s_set (i := 5) sc.nd (r_call tk (ok_law_take z) (hr.mono (by decide)) (He.glo_ok z.k z.n (z.c.fact 31)) (fS_law_take z).kp (bd_law_take_2 z) rl0 rl0 (caPm (r_cons (r_var 0) (r_cons (r_op o_add g_add (r_fn c_len n_len (He.free_ok z.k z.n (z.c.fact 0)) (PySem.boot_len) (r_cons (r_var 3) (r_nil))) (r_int)) (r_nil)))))) (s_one (s_ret (r_ty call_tuple_of n_tuple (He.free_ok z.k z.n (z.c.fact 20)) (PyProof.Rows.boot_tuple) (r_cons (r_op o_add g_add (r_sl (r_var 3) (o_some (r_var 5)) o_none) (r_sl (r_var 3) o_none (o_some (r_var 5)))) (r_nil))))))))
theorem bd_Pool_first_from_1_but_low (z : Ctx K mg) : Bd K (fd_Pool_first_from z) ["self", "low", "but"] 1 ["but", "low"] [(.us, 0), (.ws, 1), (.ws, 0)] [.int 0] [] := by
  exact bd_d (fS_Pool_first_from z) (by simp) fun _ _ _ _ _ _ _ us its ws h1 h2 h3 => match us, its, ws, h1, h2, h3 with | [_], [_], [_, _], _, _, _ => ⟨_, rfl, rfl⟩
theorem bd_Pool_first_from_2_but (z : Ctx K mg) : Bd K (fd_Pool_first_from z) ["self", "low", "but"] 2 ["but"] [(.us, 0), (.us, 1), (.ws, 0)] [.int 0] [] := by
  exact bd_d (fS_Pool_first_from z) (by simp) fun _ _ _ _ _ _ _ us its ws h1 h2 h3 => match us, its, ws, h1, h2, h3 with | [_, _], [_], [_], _, _, _ => ⟨_, rfl, rfl⟩
theorem bd_Pool_first_from_1_but (z : Ctx K mg) : Bd K (fd_Pool_first_from z) ["self", "low", "but"] 1 ["but"] [(.us, 0), (.its, 0), (.ws, 0)] [.int 0] [] := by
  exact bd_d (fS_Pool_first_from z) (by simp) fun _ _ _ _ _ _ _ us its ws h1 h2 h3 => match us, its, ws, h1, h2, h3 with | [_], [_], [_], _, _, _ => ⟨_, rfl, rfl⟩
theorem bd_Pool_first_from_2 (z : Ctx K mg) : Bd K (fd_Pool_first_from z) ["self", "low", "but"] 2 [] [(.us, 0), (.us, 1), (.mv, 0)] [.int 0] [.ref (kwAt ("Pool", some "first_from") "but" K)] := by
  exact bd_dk (fS_Pool_first_from z) [("but", .ref (kwAt ("Pool", some "first_from") "but" K))] (by simp) (by simp) (by intro q hq; simp only [List.mem_cons, List.not_mem_nil, or_false] at hq ⊢; rcases hq with rfl <;> simp) fun _ _ _ _ _ _ _ us its mv ws h1 h2 h3 h4 => match us, its, mv, ws, h1, h2, h3, h4 with | [_, _], [_], [_], [], _, _, _, _ => ⟨_, rfl, ⟨_, _, _, _, _, _, rfl, rfl, rfl⟩⟩
theorem bd_Pool_first_from_1 (z : Ctx K mg) : Bd K (fd_Pool_first_from z) ["self", "low", "but"] 1 [] [(.us, 0), (.its, 0), (.mv, 0)] [.int 0] [.ref (kwAt ("Pool", some "first_from") "but" K)] := by
  exact bd_dk (fS_Pool_first_from z) [("but", .ref (kwAt ("Pool", some "first_from") "but" K))] (by simp) (by simp) (by intro q hq; simp only [List.mem_cons, List.not_mem_nil, or_false] at hq ⊢; rcases hq with rfl <;> simp) fun _ _ _ _ _ _ _ us its mv ws h1 h2 h3 h4 => match us, its, mv, ws, h1, h2, h3, h4 with | [_], [_], [_], [], _, _, _, _ => ⟨_, rfl, ⟨_, _, _, _, _, _, rfl, rfl, rfl⟩⟩
theorem ok_Pool_first_from (z : Ctx K mg) : Fn P w K (Tc K) mg base 1 (He.fAd K ("Pool", some "first_from")) (fd_Pool_first_from z) ["self", "low", "but"] f_Pool_first_from :=
  Fn.of (N := N_Pool_first_from) (b := b_Pool_first_from) (fS_Pool_first_from z) sc_Pool_first_from fun cdv A outer s H E hr => by
    have sc := sc_Pool_first_from
    have tk : Takes (cxOf (L2.CX P w) P w K mg base N_Pool_first_from "Pool.first_from" (defScope s_Pool_first_from) (He.fAd K ("Pool", some "first_from")) cdv A outer s H E) (fun cls d _ H' => E cls d H') := takes_of rfl rfl rfl rfl
    unfold b_Pool_first_from
    exact s_cons (s_for (passes_of rfl) rfl (i_seq (r_fld (z.f_kept) (r_var 0))) (g_tp rfl (gs_cons (g_nm (i := 3) sc.nd) (gs_cons (g_nm (i := 4) sc.nd) (gs_nil)))) (s_cons (s_set (i := 5) sc.nd (r_fn (call_max2 rfl) n_max2 (He.free_ok z.k z.n (z.c.fact 2)) (boot_max) (r_cons (r_var 1) (r_cons (r_var 3) (r_nil))))) (s_cons (s_while (passes_of rfl) (t_pw (w_and (t_cmp op_le g_le (r_var 5) (r_var 4) (nomark _)) (w_and1 (t_cmp op_in_seq g_in (r_var 5) (r_var 2) (by rfl))))) (s_one (s_aug (i := 5) sc.nd ip_add g_addI (r_int)))) (s_one (s_if (t_cmp op_le g_le (r_var 5) (r_var 4) (nomark _)) (s_one (s_ret (r_var 5))) (s_nil)))))) (s_one (s_ret (r_non)))
theorem bd_Pool_stretches_1 (z : Ctx K mg) : Bd K (fd_Pool_stretches z) ["self"] 1 [] [(.us, 0)] [] [] := by
  exact bd_n (fS_Pool_stretches z) fun _ _ _ _ _ _ us ws h1 h2 => match us, ws, h1, h2 with | [_], [], _, _ => rfl
theorem ok_Pool_stretches (z : Ctx K mg) : Fn P w K (Tc K) mg base 1 (He.fAd K ("Pool", some "stretches")) (fd_Pool_stretches z) ["self"] f_Pool_stretches :=
  Fn.of (N := N_Pool_stretches) (b := b_Pool_stretches) (fS_Pool_stretches z) sc_Pool_stretches fun cdv A outer s H E hr => by
    have sc := sc_Pool_stretches
    have tk : Takes (cxOf (L2.CX P w) P w K mg base N_Pool_stretches "Pool.stretches" (defScope s_Pool_stretches) (He.fAd K ("Pool", some "stretches")) cdv A outer s H E) (fun cls d _ H' => E cls d H') := takes_of rfl rfl rfl rfl
    unfold b_Pool_stretches
    exact s_one (s_ret (r_fld (z.f_kept) (r_var 0)))
theorem ok_law (z : Ctx K mg) : Fn P w K (Tc K) mg base 7 (He.fAd K ("law", none)) (fd_law z) ["_law_script"] f_law :=
  Fn.of (N := N_law) (b := b_law) (fS_law z) sc_law fun cdv A outer s H E hr => by
    have sc := sc_law
    have tk : Takes (cxOf (L2.CX P w) P w K mg base N_law "law" (defScope s_law) (He.fAd K ("law", none)) cdv A outer s H E) (fun cls d _ H' => E cls d H') := takes_of rfl rfl rfl rfl
    unfold b_law
    exact s_cons (s_for (passes_of rfl) rfl (i_rng1 (He.free_ok z.k z.n (z.c.fact 3)) (r_fn (call_max2 rfl) n_max2 (He.free_ok z.k z.n (z.c.fact 2)) (boot_max) (r_cons (r_int) (r_cons (r_fn (call_min2 rfl) n_min2 (He.free_ok z.k z.n (z.c.fact 1)) (boot_min) (r_cons (r_int) (r_cons (r_fn c_len n_len (He.free_ok z.k z.n (z.c.fact 0)) (PySem.boot_len) (r_cons (r_var 0) (r_nil))) (r_nil)))) (r_nil))))) (g_nm (i := 1) sc.nd) (s_cons (s_set (i := 2) sc.nd (r_call tk (ok_law_bag z) (hr.mono (by decide)) (He.glo_ok z.k z.n (z.c.fact 4)) (fS_law_bag z).kp (bd_law_bag_2 z) rl0 rl0 (caPm (r_cons (r_var 0) (r_cons (r_var 1) (r_nil)))))) (s_cons (s_set (i := 3) sc.nd (r_call tk (ok_law_stretches z) (hr.mono (by decide)) (He.glo_ok z.k z.n (z.c.fact 5)) (fS_law_stretches z).kp (bd_law_stretches_2 z) rl0 rl0 (caPm (r_cons (r_var 2) (r_cons (r_int) (r_nil)))))) (s_cons (s_set (i := 4) sc.nd (r_call tk (ok_law_fewest z) (hr.mono (by decide)) (He.glo_ok z.k z.n (z.c.fact 6)) (fS_law_fewest z).kp (bd_law_fewest_1 z) rl0 rl0 (caPm (r_cons (r_var 3) (r_nil))))) (s_cons (s_set (i := 5) sc.nd (r_make (T := Tc K) (cl := 1) tk (He.mkr_ok (z.c.fact 7)) (ok_Pool_init z) (hr.mono (by decide)) (He.glo_ok z.k z.n (z.c.fact 8)) (bd_Pool_init_2 z) (rl_cons (rc_tup0 (xAll_at z.x 0 (f := .tup0 (He.dflAt ("Pool", some "__init__") 0)))) rl0) rl0 (caPm (r_cons (r_var 3) (r_nil))))) (s_one (s_for (passes_of rfl) rfl (i_rng1 (He.free_ok z.k z.n (z.c.fact 3)) (r_int)) (g_nm (i := 6) sc.nd) (s_cons (s_set (i := 7) sc.nd (r_call tk (ok_law_low z) (hr.mono (by decide)) (He.glo_ok z.k z.n (z.c.fact 9)) (fS_law_low z).kp (bd_law_low_2 z) rl0 rl0 (caPm (r_cons (r_var 2) (r_cons (r_var 4) (r_nil)))))) (s_cons (s_set (i := 8) sc.nd (r_call tk (ok_law_but z) (hr.mono (by decide)) (He.glo_ok z.k z.n (z.c.fact 10)) (fS_law_but z).kp (bd_law_but_3 z) rl0 rl0 (caPm (r_cons (r_var 2) (r_cons (r_var 4) (r_cons (r_var 7) (r_nil))))))) (s_cons (s_set (i := 9) sc.nd (r_call tk (ok_law_first z) (hr.mono (by decide)) (He.glo_ok z.k z.n (z.c.fact 11)) (fS_law_first z).kp (bd_law_first_3 z) rl0 rl0 (caPm (r_cons (r_var 4) (r_cons (r_var 7) (r_cons (r_var 8) (r_nil))))))) (s_cons (s_set (i := 10) sc.nd (r_lst (r_cons (r_meth (T := Tc K) (cl := 1) tk (r_var 5) (He.cls_ok (z.c.fact 12)) (He.meth_ok (z.c.fact 13)) (ok_Pool_first_from z) (hr.mono (by decide)) (bd_Pool_first_from_2_but z) (rl_cons (rc_int _) rl0) rl0 (caPKm (r_cons (r_var 7) (r_nil)) (k_cons (r_var 8) (k_nil)))) (r_cons (r_meth (T := Tc K) (cl := 1) tk (r_var 5) (He.cls_ok (z.c.fact 12)) (He.meth_ok (z.c.fact 13)) (ok_Pool_first_from z) (hr.mono (by decide)) (bd_Pool_first_from_1_but_low z) (rl_cons (rc_int _) rl0) rl0 (caKm (k_cons (r_var 8) (k_cons (r_var 7) (k_nil))))) (r_nil))))) (s_cons (s_if (t_pw (w_or (t_cmp (o_ne hr) g_ne (r_fn (c_repr hr) n_repr (He.free_ok z.k z.n (z.c.fact 14)) (boot_repr) (r_cons (r_var 10) (r_nil))) (r_fn (c_repr hr) n_repr (He.free_ok z.k z.n (z.c.fact 14)) (boot_repr) (r_cons (r_lst (r_cons (r_var 9) (r_cons (r_var 9) (r_nil)))) (r_nil))) (nomark _)) (w_or1 (t_cmp (o_ne hr) g_ne (r_fn (c_repr hr) n_repr (He.free_ok z.k z.n (z.c.fact 14)) (boot_repr) (r_cons (r_meth (T := Tc K) (cl := 1) tk (r_var 5) (He.cls_ok (z.c.fact 12)) (He.meth_ok (z.c.fact 13)) (ok_Pool_first_from z) (hr.mono (by decide)) (bd_Pool_first_from_1_but z) (rl_cons (rc_int _) rl0) rl0 (caKm (k_cons (r_var 8) (k_nil)))) (r_nil))) (r_fn (c_repr hr) n_repr (He.free_ok z.k z.n (z.c.fact 14)) (boot_repr) (r_cons (r_call tk (ok_law_first z) (hr.mono (by decide)) (He.glo_ok z.k z.n (z.c.fact 11)) (fS_law_first z).kp (bd_law_first_3 z) rl0 rl0 (caPm (r_cons (r_var 4) (r_cons (r_int) (r_cons (r_var 8) (r_nil)))))) (r_nil))) (nomark _))))) (s_one (s_ret (r_bl))) (s_nil)) (s_cons (s_if (t_cmp (o_ne hr) g_ne (r_fn (c_repr hr) n_repr (He.free_ok z.k z.n (z.c.fact 14)) (boot_repr) (r_cons (r_meth (T := Tc K) (cl := 1) tk (r_var 5) (He.cls_ok (z.c.fact 12)) (He.meth_ok (z.c.fact 13)) (ok_Pool_first_from z) (hr.mono (by decide)) (bd_Pool_first_from_2 z) (rl_cons (rc_int _) rl0) (rl_cons (rc_tup0 (xAll_at z.x 1 (f := .tup0 (kwAt ("Pool", some "first_from") "but")))) rl0) (caPm (r_cons (r_var 7) (r_nil)))) (r_nil))) (r_fn (c_repr hr) n_repr (He.free_ok z.k z.n (z.c.fact 14)) (boot_repr) (r_cons (r_call tk (ok_law_first z) (hr.mono (by decide)) (He.glo_ok z.k z.n (z.c.fact 11)) (fS_law_first z).kp (bd_law_first_3 z) rl0 rl0 (caPm (r_cons (r_var 4) (r_cons (r_var 7) (r_cons (r_tup (r_nil)) (r_nil)))))) (r_nil))) (nomark _)) (s_one (s_ret (r_bl))) (s_nil)) (s_cons (s_if (t_pw (w_or (t_cmp (o_ne hr) g_ne (r_fn (c_repr hr) n_repr (He.free_ok z.k z.n (z.c.fact 14)) (boot_repr) (r_cons (r_meth (T := Tc K) (cl := 1) tk (r_var 5) (He.cls_ok (z.c.fact 12)) (He.meth_ok (z.c.fact 13)) (ok_Pool_first_from z) (hr.mono (by decide)) (bd_Pool_first_from_1 z) (rl_cons (rc_int _) rl0) (rl_cons (rc_tup0 (xAll_at z.x 1 (f := .tup0 (kwAt ("Pool", some "first_from") "but")))) rl0) (ca0m)) (r_nil))) (r_fn (c_repr hr) n_repr (He.free_ok z.k z.n (z.c.fact 14)) (boot_repr) (r_cons (r_call tk (ok_law_first z) (hr.mono (by decide)) (He.glo_ok z.k z.n (z.c.fact 11)) (fS_law_first z).kp (bd_law_first_3 z) rl0 rl0 (caPm (r_cons (r_var 4) (r_cons (r_int) (r_cons (r_tup (r_nil)) (r_nil)))))) (r_nil))) (nomark _)) (w_or1 (t_cmp (o_ne hr) g_ne (r_meth (T := Tc K) (cl := 1) tk (r_var 5) (He.cls_ok (z.c.fact 12)) (He.meth_ok (z.c.fact 15)) (ok_Pool_stretches z) (hr.mono (by decide)) (bd_Pool_stretches_1 z) rl0 rl0 (ca0m)) (r_var 4) (nomark _))))) (s_one (s_ret (r_bl))) (s_nil)) (s_one (s_if (t_cmp op_notN g_isNot (r_meth (T := Tc K) (cl := 1) tk (r_make (T := Tc K) (cl := 1) tk (He.mkr_ok (z.c.fact 7)) (ok_Pool_init z) (hr.mono (by decide)) (He.glo_ok z.k z.n (z.c.fact 8)) (bd_Pool_init_1 z) (rl_cons (rc_tup0 (xAll_at z.x 0 (f := .tup0 (He.dflAt ("Pool", some "__init__") 0)))) rl0) rl0 (ca0m)) (He.cls_ok (z.c.fact 12)) (He.meth_ok (z.c.fact 13)) (ok_Pool_first_from z) (hr.mono (by decide)) (bd_Pool_first_from_2_but z) (rl_cons (rc_int _) rl0) rl0 (caPKm (r_cons (r_var 7) (r_nil)) (k_cons (r_var 8) (k_nil)))) (r_non) (nomark _)) (s_one (s_ret (r_bl))) (s_nil))))))))))))))))) (s_one (s_ret (r_bl)))
end
end K03
set_option Elab.async false
set_option linter.all false
set_option maxRecDepth 100000
set_option maxHeartbeats 0
namespace K03
open PySem PySem.Spec L2 MP
open PyProof.Rows hiding St
abbrev R : PySem.W.OpenRow := PySem.W.OpenLaw.row PySem.Challenge.rw_leasepair_k03_the_first_number
abbrev hk : PySem.W.Hook := MP.hookE 6 fa fns (xAll xa)
def ob (s : PySem.W.SharedT) : He.AlD × Bool := MP.obsE 6 fa fns (xAll xa) (HandSHeadRun.getT s)
theorem ob_eq (s : PySem.W.SharedT) : ob s = hk.obs s.abs := MP.obsE_eq (HandSHeadRun.getT_eq s)
def loose : List PySem.Str := ["_wall", "NoPool", "is_whole", "is_within", "is_stretch", "look_stretches", "fewest", "Pool", "stretch_text", "_law_bag", "_law_take", "_law_has", "_law_fewest", "_law_stretches", "_law_first", "_law_low", "_law_but", "MOST_STRETCHES", "MOST_NUMBER"]
theorem run (w : World) : HandSHeadRun.RunEq R (PySem.W.view R.prog [23]) hk ob 4000 loose w := by
  intro os
  kernel_rfl
theorem bdA_law {K : PySem.W.Frag} {mg : Str → Option Value} (z : Ctx K mg) (s : Shared) (v : Value) : BindsTo s (fd_law z) ⟨[v], []⟩ [("_law_script", v)] := FunD.bindsA (ps := ["_law_script"]) (fS_law z) (fun _ _ _ _ _ _ us hl => match us, hl with | [_], _ => rfl) s [v] rfl
end K03
open PySem PySem.W PySem.Calls PyProof.Rows
theorem K03.holds_of (hm : MP.LawTrue K03.f_law) : PySem.Challenge.rw_leasepair_k03_the_first_number.Holds := by
  w_on; o_law
  refine HandSHeadRun.head_any (r := OpenLaw.row PySem.Challenge.rw_leasepair_k03_the_first_number) (q := view (OpenLaw.row PySem.Challenge.rw_leasepair_k03_the_first_number).prog [23]) (H := K03.hk) (ob := K03.ob) (M := 4000) (loose := K03.loose) (d := HandSHeadRun.topDef (OpenLaw.row PySem.Challenge.rw_leasepair_k03_the_first_number).prog 23) (kwd := []) K03.ob_eq
    (by kernel_rfl) (fun s => by kernel_rfl) K03.run (by kernel_rfl) (by kernel_rfl) (by kernel_rfl) (by rfl) (by first | assumption | decide +kernel) (by decide +kernel) ⟨rfl, rfl, rfl, rfl, rfl, by decide +kernel⟩ ?hw ?hc
  case hw => w_witness2
  case hc =>
    refine MP.walk_law (l := PySem.Challenge.rw_leasepair_k03_the_first_number) (k := 7) (x := "_law_script") (m := K03.f_law) rfl (by kernel_rfl) ⟨⟨rfl, by decide, by decide⟩, rfl⟩ ?F hm
    intro w mg fa h Y G hmg0
    obtain ⟨K, KX, c, xx⟩ := Y
    have hmg : mg ("law" : PySem.Str) = some (.ref fa) := by
      have e : (HandSHeadRun.topDef (OpenLaw.row PySem.Challenge.rw_leasepair_k03_the_first_number).prog 23).name = ("law" : PySem.Str) := by kernel_rfl
      rw [← e]
      exact hmg0
    have z : K03.Ctx K mg := ⟨c, xx, h, KX, G⟩
    have e := hmg.symm.trans (He.glo_ok z.k z.n (z.c.fact 37))
    cases e
    exact ⟨K, K03.Tc K, K03.fd_law z, KX, fun s u => K03.bdA_law z s u, fun base _ _ => K03.ok_law z⟩
theorem PySem.Challenge.cw_leasepair_k03_the_first_number_holds : PySem.Challenge.rw_leasepair_k03_the_first_number.Holds := by
  exact K03.holds_of K03.law_true
