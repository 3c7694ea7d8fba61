import PyProof.Rows.All
import Wide.All
import OpenK.AllK
import Wide.FinOn
import HandS.ForMost
import HandS.Exc
import HandS.ExcOwn
import HandS.WordsExc
import HandS.CallSlots
import HandS.Defaults
import HandS.MakeKw
import HandS.MakeKwOnly
import HandS.Wide
import HandS.Flow
import HandS.NoneIn
import HandS.TryOnly
import HandS.Style
import HandS.IsInst
import HandS.HeadHook2
import HandS.HeadEnd
import HandS.Head2
import KE.KExcInit
import HandS.ExcInit
import HandS.ExcIs
import PySem.Challenge.RW_leasepair_k34_whole_clocks_within_the_sl
set_option Elab.async false
set_option linter.all false
set_option maxRecDepth 100000
set_option maxHeartbeats 4000000
/-! mirrors: data, abstract heaps, how they lie in the concrete heap -/
namespace MP
open PySem PySem.Spec L2
open PyProof.Rows hiding St

inductive D where
  | non | bl (b : Bool) | int (i : Int) | str (x : Str) | tup (xs : List D) | lst (xs : List D) | fz (xs : List D) | ref (n : Nat) | con (a : Addr)
inductive AO where
  | lst (xs : List D)
  | dct (kvs : List (Key × D))
  | ins (c : Nat) (fs : List (Str × D))
mutual
def D.eqb : D → D → Bool
  | .non, .non => true
  | .bl a, .bl b => a == b
  | .int a, .int b => a == b
  | .str a, .str b => decide (a = b)
  | .tup a, .tup b => D.eqbL a b
  | .lst a, .lst b => D.eqbL a b
  | .fz a, .fz b => D.eqbL a b
  | .ref a, .ref b => a == b
  | .con a, .con b => decide (a = b)
  | _, _ => false
def D.eqbL : List D → List D → Bool
  | [], [] => true
  | a :: as, b :: bs => D.eqb a b && D.eqbL as bs
  | _, _ => false
end
mutual
theorem D.eqb_eq : ∀ {a b : D}, D.eqb a b = true → a = b
  | .non, b, h => by cases b <;> simp [D.eqb] at h ⊢
  | .bl a, b, h => by cases b <;> simp [D.eqb] at h ⊢ <;> exact h
  | .int a, b, h => by cases b <;> simp [D.eqb] at h ⊢ <;> exact h
  | .str a, b, h => by cases b <;> simp [D.eqb] at h ⊢ <;> exact h
  | .tup a, b, h => by cases b <;> simp [D.eqb] at h ⊢ <;> exact D.eqbL_eq h
  | .lst a, b, h => by cases b <;> simp [D.eqb] at h ⊢ <;> exact D.eqbL_eq h
  | .fz a, b, h => by cases b <;> simp [D.eqb] at h ⊢ <;> exact D.eqbL_eq h
  | .ref a, b, h => by cases b <;> simp [D.eqb] at h ⊢ <;> exact h
  | .con a, b, h => by cases b <;> simp [D.eqb] at h ⊢ <;> exact h
theorem D.eqbL_eq : ∀ {a b : List D}, D.eqbL a b = true → a = b
  | [], b, h => by cases b <;> simp [D.eqbL] at h ⊢
  | a :: as, b, h => by
    cases b with
    | nil => simp [D.eqbL] at h
    | cons b bs =>
      simp only [D.eqbL, Bool.and_eq_true] at h
      rw [D.eqb_eq h.1, D.eqbL_eq h.2]
end
mutual
theorem D.eqb_refl : ∀ a : D, D.eqb a a = true
  | .non => rfl
  | .bl a => by simp [D.eqb]
  | .int a => by simp [D.eqb]
  | .str a => by simp [D.eqb]
  | .tup a => by simp only [D.eqb]; exact D.eqbL_refl a
  | .lst a => by simp only [D.eqb]; exact D.eqbL_refl a
  | .fz a => by simp only [D.eqb]; exact D.eqbL_refl a
  | .ref a => by simp [D.eqb]
  | .con a => by simp [D.eqb]
theorem D.eqbL_refl : ∀ a : List D, D.eqbL a a = true
  | [] => rfl
  | a :: as => by simp only [D.eqbL, D.eqb_refl a, D.eqbL_refl as, Bool.and_self]
end
structure AH where
  n : Nat
  g : Nat → Option AO
def AH.put (h : AH) (i : Nat) (o : AO) : AH := ⟨h.n, fun k => if k = i then some o else h.g k⟩
def AH.new (h : AH) (o : AO) : AH := ⟨h.n + 1, fun k => if k = h.n then some o else h.g k⟩
structure Ex where
  c : Nat
  fs : List (Str × D)
inductive Res (α : Type) where
  | ok (a : α) (h : AH)
  | ex (e : Ex) (h : AH)
  | st
/-- the world of a proof: the written part, the classes' addresses -/
structure Wd where
  K : PySem.W.Frag
  T : Nat → Addr
/-- how an abstract heap lies: so many ids, their addresses, the part of the heap that is spoken of -/
structure Cf where
  n : Nat
  ρ : Nat → Addr
  G : Hp
def Cf.noid (c : Cf) (a : Addr) : Prop := ∀ k, k < c.n → c.ρ k ≠ a

/-- a list that nobody writes -/
def LstR (w : Wd) (c : Cf) (a : Addr) (vs : List V) : Prop := c.G a = some (.lst vs) ∧ c.noid a
/-- a list that is locked or of the top's -/
def FzR (w : Wd) (c : Cf) (a : Addr) (vs : List V) : Prop := (Rd c.G a (.lst vs) ∧ c.noid a) ∨ SqL w.K (fun _ => none) a vs
def TupR (w : Wd) (c : Cf) (a : Addr) (vs : List V) : Prop := (Rd c.G a (.tup vs) ∧ c.noid a) ∨ SqT w.K (fun _ => none) a vs
mutual
def Rep (w : Wd) (c : Cf) : D → V → Prop
  | .non, v => v = .non
  | .bl b, v => v = .bl b
  | .int i, v => v = .int i
  | .str x, v => v = .str x
  | .tup ds, v => ∃ a vs, v = .ref a ∧ TupR w c a vs ∧ RepL w c ds vs
  | .lst ds, v => ∃ a vs, v = .ref a ∧ LstR w c a vs ∧ RepL w c ds vs
  | .fz ds, v => ∃ a vs, v = .ref a ∧ FzR w c a vs ∧ RepL w c ds vs
  | .ref k, v => v = .ref (c.ρ k) ∧ k < c.n
  | .con a, v => v = .ref a
def RepL (w : Wd) (c : Cf) : List D → List V → Prop
  | [], vs => vs = []
  | d :: ds, vs => ∃ x xs, vs = x :: xs ∧ Rep w c d x ∧ RepL w c ds xs
end
def RepKV (w : Wd) (c : Cf) {κ : Type} : List (κ × D) → List (κ × V) → Prop
  | [], vs => vs = []
  | d :: ds, vs => ∃ x xs, vs = (d.1, x) :: xs ∧ Rep w c d.2 x ∧ RepKV w c ds xs
def RepO (w : Wd) (c : Cf) : AO → HO → Prop
  | .lst ds, o => ∃ vs, o = .lst vs ∧ RepL w c ds vs
  | .dct kvs, o => ∃ vs, o = .dK vs ∧ RepKV w c kvs vs
  | .ins k fs, o => ∃ dx vs, o = .ins (w.T k) dx vs ∧ RepKV w c fs vs
structure Rel (w : Wd) (c : Cf) (h : AH) (H : Hp) : Prop where
  n : c.n = h.n
  wf : ∀ k, h.n ≤ k → h.g k = none
  all : ∀ k, k < h.n → ∃ o, h.g k = some o
  inj : ∀ j k, j < c.n → k < c.n → c.ρ j = c.ρ k → j = k
  at_ : ∀ k o, h.g k = some o → ∃ u, c.G (c.ρ k) = some u ∧ RepO w c o u
  sub : ∀ a u, c.G a = some u → H a = some u
structure Ext (c : Cf) (H : Hp) (c' : Cf) (H' : Hp) : Prop where
  n : c.n ≤ c'.n
  ρ : ∀ k, k < c.n → c'.ρ k = c.ρ k
  keep : ∀ a u, H a = some u → c.noid a → H' a = some u
  keepG : ∀ a u, c.G a = some u → c.noid a → c'.G a = some u
  there : ∀ a, H a ≠ none → H' a ≠ none
  newρ : ∀ k, c.n ≤ k → k < c'.n → H (c'.ρ k) = none
  newG : ∀ a, c'.G a ≠ none → c.G a = none → H a = none
  sub : ∀ a u, c.G a = some u → H a = some u
def RelS (w : Wd) (c : Cf) : List (Option D) → St → Prop
  | [], σ => σ = []
  | none :: s, σ => ∃ x xs, σ = x :: xs ∧ RelS w c s xs
  | some d :: s, σ => ∃ v xs, σ = some v :: xs ∧ Rep w c d v ∧ RelS w c s xs

variable {w : Wd} {c c' c1 c2 : Cf} {H H' H1 H2 : Hp} {h : AH}

theorem Ext.refl (R : ∀ a u, c.G a = some u → H a = some u) : Ext c H c H :=
  ⟨Nat.le_refl _, fun _ _ => rfl, fun _ _ e _ => e, fun _ _ e _ => e, fun _ e => e, fun k a b => absurd b (Nat.not_lt.mpr a), fun _ a b => absurd b a, R⟩
theorem noneEq {α : Type} {o : Option α} (h : ¬ o ≠ none) : o = none := Classical.not_not.mp h
theorem Ext.noid1 (e : Ext c H c1 H1) {a : Addr} (ha : H a ≠ none) (n : c.noid a) : c1.noid a := fun k hk z => by
  by_cases q : k < c.n
  · rw [e.ρ k q] at z
    exact n k q z
  · have := e.newρ k (Nat.not_lt.mp q) hk
    rw [z] at this
    exact ha this
theorem Ext.trans (e1 : Ext c H c1 H1) (e2 : Ext c1 H1 c2 H2) : Ext c H c2 H2 where
  n := Nat.le_trans e1.n e2.n
  ρ k hk := by rw [e2.ρ k (Nat.lt_of_lt_of_le hk e1.n), e1.ρ k hk]
  keep a u ha n := e2.keep a u (e1.keep a u ha n) (e1.noid1 (by rw [ha]; exact nofun) n)
  keepG a u ha n := e2.keepG a u (e1.keepG a u ha n) (e1.noid1 (by rw [e1.sub a u ha]; exact nofun) n)
  there a ha := e2.there a (e1.there a ha)
  newρ k h1 h2 := by
    by_cases q : k < c1.n
    · rw [e2.ρ k q]
      exact e1.newρ k h1 q
    · have := e2.newρ k (Nat.not_lt.mp q) h2
      exact noneEq fun z => e1.there _ z this
  newG a h1 h2 := by
    by_cases q : c1.G a = none
    · have := e2.newG a h1 q
      exact noneEq fun z => e1.there _ z this
    · exact e1.newG a q h2
  sub := e1.sub
/-- all that is told stays told -/
structure Mo (c c1 : Cf) : Prop where
  n : c.n ≤ c1.n
  ρ : ∀ k, k < c.n → c1.ρ k = c.ρ k
  keepG : ∀ a u, c.G a = some u → c.noid a → c1.G a = some u
  noid : ∀ a, c.G a ≠ none → c.noid a → c1.noid a
theorem Ext.mo (e : Ext c H c1 H1) : Mo c c1 := ⟨e.n, e.ρ, e.keepG, fun a ha n => e.noid1 (by
  cases q : c.G a with
  | none => exact absurd q ha
  | some u => rw [e.sub a u q]; exact nofun) n⟩
theorem LstR.mo (e : Mo c c1) {a : Addr} {vs : List V} (r : LstR w c a vs) : LstR w c1 a vs :=
  ⟨e.keepG _ _ r.1 r.2, e.noid _ (by rw [r.1]; exact nofun) r.2⟩
theorem FzR.mo (e : Mo c c1) {a : Addr} {vs : List V} (r : FzR w c a vs) : FzR w c1 a vs := by
  rcases r with ⟨r, n⟩ | r
  · refine Or.inl ⟨?_, e.noid _ ?_ n⟩
    · rcases r with r | ⟨o, r⟩
      · exact .inl (e.keepG _ _ r n)
      · exact .inr ⟨o, e.keepG _ _ r n⟩
    · rcases r with r | ⟨o, r⟩ <;> (rw [r]; exact nofun)
  · exact Or.inr r
theorem TupR.mo (e : Mo c c1) {a : Addr} {vs : List V} (r : TupR w c a vs) : TupR w c1 a vs := by
  rcases r with ⟨r, n⟩ | r
  · refine Or.inl ⟨?_, e.noid _ ?_ n⟩
    · rcases r with r | ⟨o, r⟩
      · exact .inl (e.keepG _ _ r n)
      · exact .inr ⟨o, e.keepG _ _ r n⟩
    · rcases r with r | ⟨o, r⟩ <;> (rw [r]; exact nofun)
  · exact Or.inr r
mutual
theorem Rep.mo (e : Mo c c1) : ∀ {d : D} {v : V}, Rep w c d v → Rep w c1 d v
  | .non, _, r => by simpa [Rep] using r
  | .bl _, _, r => by simpa [Rep] using r
  | .int _, _, r => by simpa [Rep] using r
  | .str _, _, r => by simpa [Rep] using r
  | .tup ds, _, r => by
    simp only [Rep] at r ⊢
    obtain ⟨a, vs, rfl, t, q⟩ := r
    exact ⟨a, vs, rfl, t.mo e, RepL.mo e q⟩
  | .lst ds, _, r => by
    simp only [Rep] at r ⊢
    obtain ⟨a, vs, rfl, t, q⟩ := r
    exact ⟨a, vs, rfl, t.mo e, RepL.mo e q⟩
  | .fz ds, _, r => by
    simp only [Rep] at r ⊢
    obtain ⟨a, vs, rfl, t, q⟩ := r
    exact ⟨a, vs, rfl, t.mo e, RepL.mo e q⟩
  | .ref k, _, r => by
    simp only [Rep] at r ⊢
    obtain ⟨rfl, hk⟩ := r
    exact ⟨by rw [e.ρ k hk], Nat.lt_of_lt_of_le hk e.n⟩
  | .con _, _, r => by simpa [Rep] using r
theorem RepL.mo (e : Mo c c1) : ∀ {ds : List D} {vs : List V}, RepL w c ds vs → RepL w c1 ds vs
  | [], _, r => by simpa [RepL] using r
  | d :: ds, _, r => by
    simp only [RepL] at r ⊢
    obtain ⟨x, xs, rfl, r1, r2⟩ := r
    exact ⟨x, xs, rfl, Rep.mo e r1, RepL.mo e r2⟩
end
theorem RepKV.mo {κ : Type} (e : Mo c c1) : ∀ {ds : List (κ × D)} {vs : List (κ × V)}, RepKV w c ds vs → RepKV w c1 ds vs
  | [], _, r => r
  | d :: ds, _, r => by
    obtain ⟨x, xs, rfl, r1, r2⟩ := r
    exact ⟨x, xs, rfl, r1.mo e, RepKV.mo e r2⟩
theorem RepO.mo (e : Mo c c1) : ∀ {o : AO} {u : HO}, RepO w c o u → RepO w c1 o u
  | .lst _, _, ⟨vs, q, r⟩ => ⟨vs, q, r.mo e⟩
  | .dct _, _, ⟨vs, q, r⟩ => ⟨vs, q, r.mo e⟩
  | .ins _ _, _, ⟨dx, vs, q, r⟩ => ⟨dx, vs, q, r.mo e⟩
theorem RelS.mo (e : Mo c c1) : ∀ {s : List (Option D)} {σ : L2.St}, RelS w c s σ → RelS w c1 s σ
  | [], _, r => r
  | none :: s, _, ⟨x, xs, q, r⟩ => ⟨x, xs, q, RelS.mo e r⟩
  | some d :: s, _, ⟨x, xs, q, r1, r⟩ => ⟨x, xs, q, r1.mo e, RelS.mo e r⟩
theorem Rep.ext (e : Ext c H c1 H1) {d : D} {v : V} (r : Rep w c d v) : Rep w c1 d v := r.mo e.mo
theorem RepL.ext (e : Ext c H c1 H1) {d : List D} {v : List V} (r : RepL w c d v) : RepL w c1 d v := r.mo e.mo
theorem RepKV.ext {κ : Type} (e : Ext c H c1 H1) {d : List (κ × D)} {v : List (κ × V)} (r : RepKV w c d v) : RepKV w c1 d v := r.mo e.mo
theorem RepO.ext (e : Ext c H c1 H1) {o : AO} {u : HO} (r : RepO w c o u) : RepO w c1 o u := r.mo e.mo
theorem RelS.ext (e : Ext c H c1 H1) {s : List (Option D)} {σ : L2.St} (r : RelS w c s σ) : RelS w c1 s σ := r.mo e.mo
theorem RelS.get : ∀ {s : List (Option D)} {σ : St} {i : Nat} {d : D}, RelS w c s σ → s[i]? = some (some d) → ∃ v, σ[i]? = some (some v) ∧ Rep w c d v
  | [], _, _, _, _, q => by simp at q
  | none :: s, _, 0, d, ⟨x, xs, e, r⟩, q => by simp at q
  | none :: s, _, i + 1, d, ⟨x, xs, e, r⟩, q => by
    subst e
    simpa using RelS.get r (i := i) (by simpa using q)
  | some d' :: s, _, 0, d, ⟨x, xs, e, r1, r⟩, q => by
    subst e
    simp at q
    subst q
    exact ⟨x, by simp, r1⟩
  | some d' :: s, _, i + 1, d, ⟨x, xs, e, r1, r⟩, q => by
    subst e
    simpa using RelS.get r (i := i) (by simpa using q)
theorem RelS.set {d : D} {v : V} (rv : Rep w c d v) : ∀ {s : List (Option D)} {σ : St} {i : Nat}, RelS w c s σ → RelS w c (s.set i (some d)) (σ.set i (some v))
  | [], _, _, q => by obtain rfl : _ = [] := q; exact rfl
  | none :: s, _, 0, ⟨x, xs, e, r⟩ => by subst e; exact ⟨v, xs, rfl, rv, r⟩
  | none :: s, _, i + 1, ⟨x, xs, e, r⟩ => by subst e; exact ⟨x, xs.set i (some v), rfl, RelS.set rv r⟩
  | some d' :: s, _, 0, ⟨x, xs, e, r1, r⟩ => by subst e; exact ⟨v, xs, rfl, rv, r⟩
  | some d' :: s, _, i + 1, ⟨x, xs, e, r1, r⟩ => by subst e; exact ⟨x, xs.set i (some v), rfl, r1, RelS.set rv r⟩
theorem RelS.wipe1 : ∀ {s : List (Option D)} {σ : St} {i : Nat} {o : Option V}, RelS w c s σ → RelS w c (s.set i none) (σ.set i o)
  | [], _, _, _, q => by obtain rfl : _ = [] := q; exact rfl
  | none :: s, _, 0, o, ⟨x, xs, e, r⟩ => by subst e; exact ⟨o, xs, rfl, r⟩
  | none :: s, _, i + 1, o, ⟨x, xs, e, r⟩ => by subst e; exact ⟨x, xs.set i o, rfl, RelS.wipe1 r⟩
  | some d' :: s, _, 0, o, ⟨x, xs, e, r1, r⟩ => by subst e; exact ⟨o, xs, rfl, r⟩
  | some d' :: s, _, i + 1, o, ⟨x, xs, e, r1, r⟩ => by subst e; exact ⟨x, xs.set i o, rfl, r1, RelS.wipe1 r⟩
/-- an id's object is written -/
theorem Rel.put {k : Nat} {o o' : AO} {u u' : HO} (R : Rel w c h H) (hk : h.g k = some o) (hu : c.G (c.ρ k) = some u)
    (r : RepO w c o' u') : Rel w ⟨c.n, c.ρ, upd c.G (c.ρ k) u'⟩ (h.put k o') (upd H (c.ρ k) u') ∧ Ext c H ⟨c.n, c.ρ, upd c.G (c.ρ k) u'⟩ (upd H (c.ρ k) u') := by
  have kn : k < c.n := by
    rw [R.n]
    refine Nat.lt_of_not_le fun z => ?_
    rw [R.wf k z] at hk
    cases hk
  have E : Ext c H ⟨c.n, c.ρ, upd c.G (c.ρ k) u'⟩ (upd H (c.ρ k) u') := by
    refine ⟨Nat.le_refl _, fun _ _ => rfl, fun a u e n => ?_, fun a u e n => ?_, fun a e => ?_, fun k a b => absurd b (Nat.not_lt.mpr a), fun a e1 e2 => ?_, R.sub⟩
    · rw [upd_ne fun z => n k kn z.symm]
      exact e
    · show upd c.G (c.ρ k) u' a = _
      rw [upd_ne fun z => n k kn z.symm]
      exact e
    · by_cases z : a = c.ρ k
      · subst z
        rw [upd_same]
        exact nofun
      · rw [upd_ne z]
        exact e
    · exfalso
      have z : a ≠ c.ρ k := fun z => by rw [z, hu] at e2; cases e2
      exact e1 (by show upd c.G (c.ρ k) u' a = _; rw [upd_ne z]; exact e2)
  refine ⟨⟨R.n, fun j hj => ?_, fun j hj => ?_, R.inj, fun j o2 hj => ?_, fun a u e => ?_⟩, E⟩
  · show (if j = k then some o' else h.g j) = none
    have kn' : k < h.n := by rw [← R.n]; exact kn
    have hj' : h.n ≤ j := hj
    rw [if_neg (by omega)]
    exact R.wf j hj
  · show ∃ o, (if j = k then some o' else h.g j) = some o
    by_cases z : j = k
    · exact ⟨o', by rw [if_pos z]⟩
    · rw [if_neg z]
      exact R.all j hj
  · have hj : (if j = k then some o' else h.g j) = some o2 := hj
    by_cases z : j = k
    · rw [if_pos z] at hj
      cases hj
      subst z
      exact ⟨u', upd_same, r.ext E⟩
    · rw [if_neg z] at hj
      obtain ⟨u2, e2, r2⟩ := R.at_ j o2 hj
      have jn : j < c.n := by
        rw [R.n]
        refine Nat.lt_of_not_le fun z => ?_
        rw [R.wf j z] at hj
        cases hj
      exact ⟨u2, by show upd c.G (c.ρ k) u' (c.ρ j) = _; rw [upd_ne fun q => z (R.inj _ _ jn kn q)]; exact e2, r2.ext E⟩
  · by_cases z : a = c.ρ k
    · subst z
      have e : upd c.G (c.ρ k) u' (c.ρ k) = some u := e
      rw [upd_same] at e
      rw [upd_same]
      exact e
    · have e : upd c.G (c.ρ k) u' a = some u := e
      rw [upd_ne z] at e
      rw [upd_ne z]
      exact R.sub a u e
/-- a new object that is an id -/
def Cf.add (c : Cf) (p : Addr) (u : HO) : Cf := ⟨c.n + 1, fun k => if k = c.n then p else c.ρ k, upd c.G p u⟩
/-- a new object that nobody writes -/
def Cf.lay (c : Cf) (p : Addr) (u : HO) : Cf := ⟨c.n, c.ρ, upd c.G p u⟩
theorem Rel.gfree (R : Rel w c h H) {p : Addr} (hp : H p = none) : c.G p = none := by
  cases q : c.G p with
  | none => rfl
  | some u => rw [R.sub p u q] at hp; cases hp
theorem Rel.idThere (R : Rel w c h H) {k : Nat} (hk : k < c.n) : ∃ u, H (c.ρ k) = some u := by
  obtain ⟨o, e⟩ := R.all k (by rw [← R.n]; exact hk)
  obtain ⟨u, e2, _⟩ := R.at_ k o e
  exact ⟨u, R.sub _ _ e2⟩
theorem Rel.noidNew (R : Rel w c h H) {p : Addr} (hp : H p = none) : c.noid p := fun k hk z => by
  obtain ⟨u, e⟩ := R.idThere hk
  rw [z, hp] at e
  cases e
/-- the heap grows elsewhere (H' keeps all of H): then p of H' joins -/
theorem Rel.ext0 (R : Rel w c h H) (k : ∀ a u, H a = some u → H' a = some u) : Rel w c h H' ∧ Ext c H c H' :=
  ⟨⟨R.n, R.wf, R.all, R.inj, R.at_, fun a u e => k a u (R.sub a u e)⟩,
    ⟨Nat.le_refl _, fun _ _ => rfl, fun a u e _ => k a u e, fun _ _ e _ => e, fun a e => by
      cases q : H a with
      | none => exact absurd q e
      | some u => rw [k a u q]; exact nofun, fun k a b => absurd b (Nat.not_lt.mpr a), fun _ a b => absurd b a, R.sub⟩⟩
theorem Rel.lay {p : Addr} {u : HO} (R : Rel w c h H) (hp : H p = none) (k : ∀ a v, H a = some v → H' a = some v) (hu : H' p = some u) : Rel w (c.lay p u) h H' ∧ Ext c H (c.lay p u) H' := by
  have gp := R.gfree hp
  have E : Ext c H (c.lay p u) H' := by
    refine ⟨Nat.le_refl _, fun _ _ => rfl, fun a v e _ => k a v e, fun a v e _ => ?_, fun a e => ?_, fun k a b => absurd b (Nat.not_lt.mpr a), fun a e1 e2 => ?_, R.sub⟩
    · show upd c.G p u a = some v
      rw [upd_ne (ne_of_none e gp)]
      exact e
    · cases q : H a with
      | none => exact absurd q e
      | some v => rw [k a v q]; exact nofun
    · by_cases z : a = p
      · rw [z]; exact hp
      · exact absurd (show upd c.G p u a = none by rw [upd_ne z]; exact e2) e1
  refine ⟨⟨R.n, R.wf, R.all, R.inj, fun j o hj => ?_, fun a v e => ?_⟩, E⟩
  · obtain ⟨v, e, r⟩ := R.at_ j o hj
    exact ⟨v, by show upd c.G p u (c.ρ j) = _; rw [upd_ne (ne_of_none e gp)]; exact e, r.ext E⟩
  · have e : upd c.G p u a = some v := e
    by_cases z : a = p
    · subst z
      rw [upd_same] at e
      rw [hu]
      exact e
    · rw [upd_ne z] at e
      exact k a v (R.sub a v e)
theorem Rel.add {p : Addr} {u : HO} {o : AO} (R : Rel w c h H) (hp : H p = none) (k : ∀ a v, H a = some v → H' a = some v) (hu : H' p = some u) (r : RepO w c o u) :
    Rel w (c.add p u) (h.new o) H' ∧ Ext c H (c.add p u) H' := by
  have gp := R.gfree hp
  have E : Ext c H (c.add p u) H' := by
    refine ⟨Nat.le_succ _, fun j hj => ?_, fun a v e _ => k a v e, fun a v e _ => ?_, fun a e => ?_, fun j a b => ?_, fun a e1 e2 => ?_, R.sub⟩
    · show (if j = c.n then p else c.ρ j) = _
      rw [if_neg (Nat.ne_of_lt hj)]
    · show upd c.G p u a = some v
      rw [upd_ne (ne_of_none e gp)]
      exact e
    · cases q : H a with
      | none => exact absurd q e
      | some v => rw [k a v q]; exact nofun
    · have b : j < c.n + 1 := b
      obtain rfl : j = c.n := by omega
      show H (if c.n = c.n then p else _) = none
      rw [if_pos rfl]
      exact hp
    · by_cases z : a = p
      · rw [z]; exact hp
      · exact absurd (show upd c.G p u a = none by rw [upd_ne z]; exact e2) e1
  refine ⟨⟨by show c.n + 1 = h.n + 1; rw [R.n], fun j hj => ?_, fun j hj => ?_, fun j i hj hi e => ?_, fun j o2 hj => ?_, fun a v e => ?_⟩, E⟩
  · have hj : h.n + 1 ≤ j := hj
    show (if j = h.n then some o else h.g j) = none
    rw [if_neg (by omega)]
    exact R.wf j (by omega)
  · have hj : j < h.n + 1 := hj
    show ∃ o', (if j = h.n then some o else h.g j) = some o'
    by_cases z : j = h.n
    · exact ⟨o, by rw [if_pos z]⟩
    · rw [if_neg z]
      exact R.all j (by omega)
  · have hj : j < c.n + 1 := hj
    have hi : i < c.n + 1 := hi
    have e : (if j = c.n then p else c.ρ j) = (if i = c.n then p else c.ρ i) := e
    have no := R.noidNew hp
    by_cases zj : j = c.n
    · by_cases zi : i = c.n
      · rw [zj, zi]
      · rw [if_pos zj, if_neg zi] at e
        exact absurd e.symm (no i (by omega))
    · by_cases zi : i = c.n
      · rw [if_neg zj, if_pos zi] at e
        exact absurd e (no j (by omega))
      · rw [if_neg zj, if_neg zi] at e
        exact R.inj _ _ (by omega) (by omega) e
  · have hj : (if j = h.n then some o else h.g j) = some o2 := hj
    show ∃ v, upd c.G p u (if j = c.n then p else c.ρ j) = some v ∧ RepO w (c.add p u) o2 v
    by_cases z : j = h.n
    · rw [if_pos z] at hj
      cases hj
      rw [if_pos (by rw [R.n]; exact z), upd_same]
      exact ⟨u, rfl, r.ext E⟩
    · rw [if_neg z] at hj
      rw [if_neg (by rw [R.n]; exact z)]
      obtain ⟨v, e, r⟩ := R.at_ j o2 hj
      exact ⟨v, by rw [upd_ne (ne_of_none e gp)]; exact e, r.ext E⟩
  · have e : upd c.G p u a = some v := e
    by_cases z : a = p
    · subst z
      rw [upd_same] at e
      rw [hu]
      exact e
    · rw [upd_ne z] at e
      exact k a v (R.sub a v e)
/-! ### a new object that is still being made: it lies, but is not told of -/
theorem Rel.noidG (R : Rel w c h H) {a : Addr} (ha : c.G a = none) : c.noid a := fun k hk z => by
  obtain ⟨o, e⟩ := R.all k (by rw [← R.n]; exact hk)
  obtain ⟨u, e2, _⟩ := R.at_ k o e
  rw [z, ha] at e2
  cases e2
theorem Rel.priv {p : Addr} {o : HO} (R : Rel w c h H) (gp : c.G p = none) : Rel w c h (upd H p o) :=
  ⟨R.n, R.wf, R.all, R.inj, R.at_, fun a u e => by rw [upd_ne (ne_of_none e gp)]; exact R.sub a u e⟩
theorem Ext.priv {p : Addr} {o : HO} (E : Ext c H c1 H1) (hp : H p = none) : Ext c H c1 (upd H1 p o) :=
  ⟨E.n, E.ρ, fun a u e n => by rw [upd_ne (ne_of_none e hp)]; exact E.keep a u e n, E.keepG, fun a e => by
    by_cases z : a = p
    · subst z; rw [upd_same]; exact nofun
    · rw [upd_ne z]; exact E.there a e, E.newρ, E.newG, E.sub⟩
theorem Ext.gnone (E : Ext c H c1 H1) {p : Addr} (g : c.G p = none) (hp : H p ≠ none) : c1.G p = none := noneEq fun z => hp (E.newG p z g)
/-- it is told of from now on -/
theorem Rel.join {p : Addr} {u : HO} (R : Rel w c h H) (gp : c.G p = none) (hp : H p = some u) : Rel w (c.lay p u) h H ∧ Mo c (c.lay p u) := by
  have M : Mo c (c.lay p u) := ⟨Nat.le_refl _, fun _ _ => rfl, fun a v e _ => by show upd c.G p u a = some v; rw [upd_ne (ne_of_none e gp)]; exact e, fun a _ n => n⟩
  refine ⟨⟨R.n, R.wf, R.all, R.inj, fun j o hj => ?_, fun a v e => ?_⟩, M⟩
  · obtain ⟨v, e, r⟩ := R.at_ j o hj
    exact ⟨v, by show upd c.G p u (c.ρ j) = _; rw [upd_ne (ne_of_none e gp)]; exact e, r.mo M⟩
  · have e : upd c.G p u a = some v := e
    by_cases z : a = p
    · subst z
      rw [upd_same] at e
      rw [hp]
      exact e
    · rw [upd_ne z] at e
      exact R.sub a v e
theorem Ext.join {p : Addr} {u : HO} (E : Ext c H c1 H1) (hp : H p = none) : Ext c H (c1.lay p u) H1 :=
  ⟨E.n, E.ρ, E.keep, fun a v e n => by
    show upd c1.G p u a = some v
    rw [upd_ne (ne_of_none (E.sub a v e) hp)]
    exact E.keepG a v e n, E.there, E.newρ, fun a e1 e2 => by
    by_cases z : a = p
    · rw [z]; exact hp
    · exact E.newG a (fun q => e1 (by show upd c1.G p u a = none; rw [upd_ne z]; exact q)) e2, E.sub⟩
/-- .. as an id -/
theorem Rel.joinId {p : Addr} {u : HO} {o : AO} (R : Rel w c h H) (gp : c.G p = none) (hp : H p = some u) (r : RepO w c o u) : Rel w (c.add p u) (h.new o) H ∧ Mo c (c.add p u) := by
  have no := R.noidG gp
  have M : Mo c (c.add p u) := by
    refine ⟨Nat.le_succ _, fun j hj => ?_, fun a v e _ => by show upd c.G p u a = some v; rw [upd_ne (ne_of_none e gp)]; exact e, fun a ha n k hk z => ?_⟩
    · show (if j = c.n then p else c.ρ j) = _
      rw [if_neg (Nat.ne_of_lt hj)]
    · have hk : k < c.n + 1 := hk
      have z : (if k = c.n then p else c.ρ k) = a := z
      by_cases q : k = c.n
      · rw [if_pos q] at z
        rw [← z] at ha
        exact ha gp
      · rw [if_neg q] at z
        exact n k (by omega) z
  refine ⟨⟨by show c.n + 1 = h.n + 1; rw [R.n], fun j hj => ?_, fun j hj => ?_, fun j i hj hi e => ?_, fun j o2 hj => ?_, fun a v e => ?_⟩, M⟩
  · have hj : h.n + 1 ≤ j := hj
    show (if j = h.n then some o else h.g j) = none
    rw [if_neg (by omega)]
    exact R.wf j (by omega)
  · have hj : j < h.n + 1 := hj
    show ∃ o', (if j = h.n then some o else h.g j) = some o'
    by_cases z : j = h.n
    · exact ⟨o, by rw [if_pos z]⟩
    · rw [if_neg z]
      exact R.all j (by omega)
  · have hj : j < c.n + 1 := hj
    have hi : i < c.n + 1 := hi
    have e : (if j = c.n then p else c.ρ j) = (if i = c.n then p else c.ρ i) := e
    by_cases zj : j = c.n
    · by_cases zi : i = c.n
      · rw [zj, zi]
      · rw [if_pos zj, if_neg zi] at e
        exact absurd e.symm (no i (by omega))
    · by_cases zi : i = c.n
      · rw [if_neg zj, if_pos zi] at e
        exact absurd e (no j (by omega))
      · rw [if_neg zj, if_neg zi] at e
        exact R.inj _ _ (by omega) (by omega) e
  · have hj : (if j = h.n then some o else h.g j) = some o2 := hj
    show ∃ v, upd c.G p u (if j = c.n then p else c.ρ j) = some v ∧ RepO w (c.add p u) o2 v
    by_cases z : j = h.n
    · rw [if_pos z] at hj
      cases hj
      rw [if_pos (by rw [R.n]; exact z), upd_same]
      exact ⟨u, rfl, r.mo M⟩
    · rw [if_neg z] at hj
      rw [if_neg (by rw [R.n]; exact z)]
      obtain ⟨v, e, r⟩ := R.at_ j o2 hj
      exact ⟨v, by rw [upd_ne (ne_of_none e gp)]; exact e, r.mo M⟩
  · have e : upd c.G p u a = some v := e
    by_cases z : a = p
    · subst z
      rw [upd_same] at e
      rw [hp]
      exact e
    · rw [upd_ne z] at e
      exact R.sub a v e
theorem Ext.joinId {p : Addr} {u : HO} (E : Ext c H c1 H1) (hp : H p = none) : Ext c H (c1.add p u) H1 :=
  ⟨Nat.le_trans E.n (Nat.le_succ _), fun k hk => by
    show (if k = c1.n then p else c1.ρ k) = _
    rw [if_neg (Nat.ne_of_lt (Nat.lt_of_lt_of_le hk E.n))]
    exact E.ρ k hk, E.keep, fun a v e n => by
    show upd c1.G p u a = some v
    rw [upd_ne (ne_of_none (E.sub a v e) hp)]
    exact E.keepG a v e n, E.there, fun k h1 h2 => by
    have h2 : k < c1.n + 1 := h2
    show H (if k = c1.n then p else c1.ρ k) = none
    by_cases z : k = c1.n
    · rw [if_pos z]; exact hp
    · rw [if_neg z]; exact E.newρ k h1 (by omega), fun a e1 e2 => by
    by_cases z : a = p
    · rw [z]; exact hp
    · exact E.newG a (fun q => e1 (by show upd c1.G p u a = none; rw [upd_ne z]; exact q)) e2, E.sub⟩
end MP
set_option Elab.async false
set_option linter.all false
set_option maxRecDepth 100000
set_option maxHeartbeats 4000000
/-! mirrors: expressions, tests, statements as functions of slots and abstract heap; how readings follow from them -/
namespace MP
open PySem PySem.Spec L2
open PyProof.Rows hiding St

def Res.bind {α β : Type} (r : Res α) (f : α → AH → Res β) : Res β :=
  match r with
  | .ok a h => f a h
  | .ex e h => .ex e h
  | .st => .st
abbrev Sl := List (Option D)
abbrev ME := Sl → AH → Res D
abbrev MT := Sl → AH → Res Bool
abbrev MA := Sl → AH → Res (List D)
inductive RS where
  | nx (s : Sl) (h : AH)
  | rt (d : D) (h : AH)
  | bk (s : Sl) (h : AH)
  | ct (s : Sl) (h : AH)
  | ex (e : Ex) (s : Sl) (h : AH)
  | st
abbrev MS := Sl → AH → RS
abbrev MF := List D → AH → Res D

/-- an exception as it lies -/
def RepX (w : Wd) (c : Cf) (e : Ex) (cls : Value) (dd : Option Addr) : Prop :=
  cls = .ref (w.T e.c) ∧ (e.fs = [] ∨ ∃ d vs, dd = some d ∧ c.G d = some (.xd vs) ∧ c.noid d ∧ RepKV w c e.fs vs)
theorem RepX.ext {w : Wd} {c c1 : Cf} {H H1 : Hp} (x : Ext c H c1 H1) {e : Ex} {cls : Value} {dd : Option Addr} (r : RepX w c e cls dd) : RepX w c1 e cls dd := by
  obtain ⟨h1, h2⟩ := r
  refine ⟨h1, ?_⟩
  rcases h2 with h2 | ⟨d, vs, a, b, n, r⟩
  · exact .inl h2
  · exact .inr ⟨d, vs, a, x.keepG _ _ b n, x.noid1 (by rw [x.sub _ _ b]; exact nofun) n, r.ext x⟩

/-- what is to hold of an outcome -/
def Out (w : Wd) (c : Cf) (H : Hp) (E : XK) {α β : Type} (A : Cf → α → β → Prop) (Q : β → Hp → Prop) : Res α → Prop
  | .ok a h' => ∀ c' b H', Rel w c' h' H' → Ext c H c' H' → A c' a b → Q b H'
  | .ex e h' => ∀ c' cls dd H', Rel w c' h' H' → Ext c H c' H' → RepX w c' e cls dd → E cls dd H'
  | .st => False
def OutS (w : Wd) (c : Cf) (H : Hp) (W : WX) (D : Ends) : RS → Prop
  | .nx s' h' => ∀ c' σ' H', Rel w c' h' H' → Ext c H c' H' → RelS w c' s' σ' → D.nx σ' H'
  | .rt d h' => ∀ c' v H', Rel w c' h' H' → Ext c H c' H' → Rep w c' d v → D.rt v H'
  | .bk s' h' => ∀ c' σ' H', Rel w c' h' H' → Ext c H c' H' → RelS w c' s' σ' → D.bk σ' H'
  | .ct s' h' => ∀ c' σ' H', Rel w c' h' H' → Ext c H c' H' → RelS w c' s' σ' → D.ct σ' H'
  | .ex e s' h' => ∀ c' cls dd σ' H', Rel w c' h' H' → Ext c H c' H' → RelS w c' s' σ' → RepX w c' e cls dd → W cls dd σ' H'
  | .st => False
def tM (w : Wd) (W : WX) (m : ME) : TE := fun σ H Q => ∃ c s h, Rel w c h H ∧ RelS w c s σ ∧ Out w c H (fun cls dd H' => W cls dd σ H') (Rep w) Q (m s h)
def tT (w : Wd) (W : WX) (m : MT) : TT := fun σ H Q => ∃ c s h, Rel w c h H ∧ RelS w c s σ ∧ Out w c H (fun cls dd H' => W cls dd σ H') (fun _ a b => a = b) Q (m s h)
def tA (w : Wd) (W : WX) (m : MA) : TA := fun σ H Q => ∃ c s h, Rel w c h H ∧ RelS w c s σ ∧ Out w c H (fun cls dd H' => W cls dd σ H') (RepL w) Q (m s h)
def tS (w : Wd) (W : WX) (m : MS) : TS := fun D σ H => ∃ c s h, Rel w c h H ∧ RelS w c s σ ∧ OutS w c H W D (m s h)

section
variable {w : Wd} {c c1 : Cf} {H H1 : Hp} {E : XK} {α β γ δ : Type} {A : Cf → α → β → Prop} {B : Cf → γ → δ → Prop}
theorem Out.shift (x : Ext c H c1 H1) {Q : β → Hp → Prop} : ∀ {r : Res α}, Out w c H E A Q r → Out w c1 H1 E A Q r
  | .ok _ _, o => fun c' b H' R e a => o c' b H' R (x.trans e) a
  | .ex _ _, o => fun c' cls dd H' R e a => o c' cls dd H' R (x.trans e) a
  | .st, o => o
theorem OutS.shift {W : WX} {D : Ends} (x : Ext c H c1 H1) : ∀ {r : RS}, OutS w c H W D r → OutS w c1 H1 W D r
  | .nx _ _, o => fun c' b H' R e a => o c' b H' R (x.trans e) a
  | .rt _ _, o => fun c' b H' R e a => o c' b H' R (x.trans e) a
  | .bk _ _, o => fun c' b H' R e a => o c' b H' R (x.trans e) a
  | .ct _ _, o => fun c' b H' R e a => o c' b H' R (x.trans e) a
  | .ex _ _ _, o => fun c' cls dd σ' H' R e a r => o c' cls dd σ' H' R (x.trans e) a r
  | .st, o => o
theorem Out.mono {Q Q' : β → Hp → Prop} (q : ∀ b H', Q b H' → Q' b H') : ∀ {r : Res α}, Out w c H E A Q r → Out w c H E A Q' r
  | .ok _ _, o => fun c' b H' R e a => q _ _ (o c' b H' R e a)
  | .ex _ _, o => o
  | .st, o => o
/-- the first part of a bind -/
theorem Out.bind {Q : δ → Hp → Prop} {f : α → AH → Res γ} : ∀ {r : Res α}, Out w c H E B Q (r.bind f) →
    Out w c H E A (fun b H1 => ∃ c1 h1 a, Rel w c1 h1 H1 ∧ Ext c H c1 H1 ∧ A c1 a b ∧ Out w c1 H1 E B Q (f a h1)) r
  | .ok a h', o => fun c' b H' R e q => ⟨c', h', a, R, e, q, Out.shift e o⟩
  | .ex _ _, o => o
  | .st, o => o
end

section
variable {X : Cx}
theorem PEi {e : Expr} {t t' : TE} (h : PE X e t) (q : ∀ σ H Q, t' σ H Q → t σ H Q) : PE X e t' := ⟨fun pins s σ H Q I z => h.run pins s σ H Q I (q σ H Q z)⟩
theorem PTi {e : Expr} {t t' : TT} (h : PT X e t) (q : ∀ σ H Q, t' σ H Q → t σ H Q) : PT X e t' := ⟨fun pins s σ H Q I z => h.run pins s σ H Q I (q σ H Q z)⟩
theorem PWi {e : Expr} {t t' : TT} (h : PW X e t) (q : ∀ σ H Q, t' σ H Q → t σ H Q) : PW X e t' := ⟨fun wh pins s σ H Q I z => h.run wh pins s σ H Q I (q σ H Q z)⟩
theorem PAi {e : List Expr} {t t' : TA} (h : PA X e t) (q : ∀ σ H Q, t' σ H Q → t σ H Q) : PA X e t' := ⟨fun p pins s σ H Q I z => h.run p pins s σ H Q I (q σ H Q z)⟩
theorem PKi {e : List Keyword} {t t' : TA} (h : PK X e t) (q : ∀ σ H Q, t' σ H Q → t σ H Q) : PK X e t' := ⟨fun p pins s σ H Q I z => h.run p pins s σ H Q I (q σ H Q z)⟩
theorem PSi {e : Stmt} {t t' : TS} (h : PS X e t) (q : ∀ D σ H, t' D σ H → t D σ H) : PS X e t' := ⟨fun pins s σ H Q I z => h.run pins s σ H Q I (q Q σ H z)⟩
theorem PSsi {e : List Stmt} {t t' : TS} (h : PSs X e t) (q : ∀ D σ H, t' D σ H → t D σ H) : PSs X e t' := ⟨fun pins s σ H Q I z => h.run pins s σ H Q I (q Q σ H z)⟩
end

/-! ### what lists and tuples hold -/
def seqL (h : AH) : D → Option (List D)
  | .lst xs => some xs
  | .fz xs => some xs
  | .ref k => match h.g k with
    | some (.lst xs) => some xs
    | _ => none
  | _ => none
/-- a list of one's own -/
def seqM (h : AH) : D → Option (List D)
  | .lst xs => some xs
  | .ref k => match h.g k with
    | some (.lst xs) => some xs
    | _ => none
  | _ => none
def seqT : D → Option (List D)
  | .tup xs => some xs
  | _ => none
def seqX (h : AH) (d : D) : Option (List D) := match seqT d with
  | some xs => some xs
  | none => seqL h d
section
variable {w : Wd} {c : Cf} {H : Hp} {h : AH}
theorem Rd.up (s : ∀ a u, c.G a = some u → H a = some u) {a : Addr} {u : HO} (r : Rd c.G a u) : Rd H a u := by
  rcases r with r | ⟨o, r⟩
  · exact .inl (s _ _ r)
  · exact .inr ⟨o, s _ _ r⟩
theorem LstR.sq (s : ∀ a u, c.G a = some u → H a = some u) {a : Addr} {vs : List V} (r : LstR w c a vs) : SqL w.K H a vs := .of (s _ _ r.1)
theorem FzR.sq (s : ∀ a u, c.G a = some u → H a = some u) {a : Addr} {vs : List V} (r : FzR w c a vs) : SqL w.K H a vs := by
  rcases r with ⟨r, _⟩ | r
  · exact .inl (Rd.up s r)
  · rcases r with (r | ⟨o, r⟩) | r
    · cases r
    · cases r
    · exact .inr r
theorem TupR.sq (s : ∀ a u, c.G a = some u → H a = some u) {a : Addr} {vs : List V} (r : TupR w c a vs) : SqT w.K H a vs := by
  rcases r with ⟨r, _⟩ | r
  · exact .inl (Rd.up s r)
  · rcases r with (r | ⟨o, r⟩) | r
    · cases r
    · cases r
    · exact .inr r
theorem RepL.len : ∀ {ds : List D} {vs : List V}, RepL w c ds vs → ds.length = vs.length
  | [], vs, r => by obtain rfl : vs = [] := by simpa [RepL] using r
                    rfl
  | d :: ds, vs, r => by
    simp only [RepL] at r
    obtain ⟨x, xs, rfl, _, r⟩ := r
    simp [RepL.len r]
theorem RepL.get : ∀ {ds : List D} {vs : List V} {i : Nat} {d : D}, RepL w c ds vs → ds[i]? = some d → ∃ v, vs[i]? = some v ∧ Rep w c d v
  | [], _, _, _, _, q => by simp at q
  | x :: ds, vs, i, d, r, q => by
    simp only [RepL] at r
    obtain ⟨y, ys, rfl, r1, r2⟩ := r
    cases i with
    | zero => simp at q; subst q; exact ⟨y, rfl, r1⟩
    | succ i => simpa using RepL.get r2 (i := i) (by simpa using q)
theorem RepL.set {d : D} {v : V} (rv : Rep w c d v) : ∀ {ds : List D} {vs : List V} {i : Nat}, RepL w c ds vs → RepL w c (ds.set i d) (vs.set i v)
  | [], vs, i, r => by obtain rfl : vs = [] := by simpa [RepL] using r
                       simpa [RepL] using r
  | x :: ds, vs, i, r => by
    simp only [RepL] at r
    obtain ⟨y, ys, rfl, r1, r2⟩ := r
    cases i with
    | zero => simp only [List.set_cons_zero, RepL]; exact ⟨v, ys, rfl, rv, r2⟩
    | succ i => simp only [List.set_cons_succ, RepL]; exact ⟨y, ys.set i v, rfl, r1, RepL.set rv r2⟩
theorem RepL.append : ∀ {ds es : List D} {vs us : List V}, RepL w c ds vs → RepL w c es us → RepL w c (ds ++ es) (vs ++ us)
  | [], _, vs, _, r, r2 => by obtain rfl : vs = [] := by simpa [RepL] using r
                              simpa using r2
  | d :: ds, es, vs, us, r, r2 => by
    simp only [RepL] at r
    obtain ⟨y, ys, rfl, r1, r3⟩ := r
    simp only [List.cons_append, RepL]
    exact ⟨y, ys ++ us, rfl, r1, RepL.append r3 r2⟩
theorem RepL.cons {d : D} {v : V} {ds : List D} {vs : List V} (r : Rep w c d v) (rs : RepL w c ds vs) : RepL w c (d :: ds) (v :: vs) := by
  simp only [RepL]
  exact ⟨v, vs, rfl, r, rs⟩
theorem RepL.nil : RepL w c [] [] := by simp only [RepL]
theorem RepL.drop : ∀ {ds : List D} {vs : List V} (n : Nat), RepL w c ds vs → RepL w c (ds.drop n) (vs.drop n)
  | [], vs, n, r => by obtain rfl : vs = [] := by simpa [RepL] using r
                       simpa [RepL] using r
  | d :: ds, vs, n, r => by
    cases n with
    | zero => simpa using r
    | succ n =>
      simp only [RepL] at r
      obtain ⟨y, ys, rfl, r1, r3⟩ := r
      simpa using RepL.drop n r3
theorem RepL.take : ∀ {ds : List D} {vs : List V} (n : Nat), RepL w c ds vs → RepL w c (ds.take n) (vs.take n)
  | [], vs, n, r => by obtain rfl : vs = [] := by simpa [RepL] using r
                       simpa [RepL] using r
  | d :: ds, vs, n, r => by
    cases n with
    | zero => simp [RepL]
    | succ n =>
      simp only [RepL] at r
      obtain ⟨y, ys, rfl, r1, r3⟩ := r
      simp only [List.take_succ_cons]
      exact .cons r1 (RepL.take n r3)
theorem seqL_ok (R : Rel w c h H) {d : D} {v : V} {xs : List D} (r : Rep w c d v) (q : seqL h d = some xs) : ∃ a vs, v = .ref a ∧ SqL w.K H a vs ∧ RepL w c xs vs := by
  cases d with
  | lst ds =>
    simp only [seqL, Option.some.injEq] at q
    subst q
    simp only [Rep] at r
    obtain ⟨a, vs, rfl, l, r⟩ := r
    exact ⟨a, vs, rfl, l.sq R.sub, r⟩
  | fz ds =>
    simp only [seqL, Option.some.injEq] at q
    subst q
    simp only [Rep] at r
    obtain ⟨a, vs, rfl, l, r⟩ := r
    exact ⟨a, vs, rfl, l.sq R.sub, r⟩
  | ref k =>
    simp only [seqL] at q
    split at q
    · rename_i ys e
      cases q
      simp only [Rep] at r
      obtain ⟨rfl, hk⟩ := r
      obtain ⟨u, e1, vs, rfl, r⟩ := R.at_ k _ e
      exact ⟨_, vs, rfl, .of (R.sub _ _ e1), r⟩
    · cases q
  | _ => simp [seqL] at q
theorem seqM_ok (R : Rel w c h H) {d : D} {v : V} {xs : List D} (r : Rep w c d v) (q : seqM h d = some xs) : ∃ a vs, v = .ref a ∧ H a = some (.lst vs) ∧ RepL w c xs vs := by
  cases d with
  | lst ds =>
    simp only [seqM, Option.some.injEq] at q
    subst q
    simp only [Rep] at r
    obtain ⟨a, vs, rfl, l, r⟩ := r
    exact ⟨a, vs, rfl, R.sub _ _ l.1, r⟩
  | ref k =>
    simp only [seqM] at q
    split at q
    · rename_i ys e
      cases q
      simp only [Rep] at r
      obtain ⟨rfl, hk⟩ := r
      obtain ⟨u, e1, vs, rfl, r⟩ := R.at_ k _ e
      exact ⟨_, vs, rfl, R.sub _ _ e1, r⟩
    · cases q
  | _ => simp [seqM] at q
theorem seqT_ok (R : Rel w c h H) {d : D} {v : V} {xs : List D} (r : Rep w c d v) (q : seqT d = some xs) : ∃ a vs, v = .ref a ∧ SqT w.K H a vs ∧ RepL w c xs vs := by
  cases d with
  | tup ds =>
    simp only [seqT, Option.some.injEq] at q
    subst q
    simp only [Rep] at r
    obtain ⟨a, vs, rfl, l, r⟩ := r
    exact ⟨a, vs, rfl, l.sq R.sub, r⟩
  | _ => simp [seqT] at q
end

/-! ### operations on values -/
/-- a value is handed on, the heap as it is or grown -/
abbrev Gives (w : Wd) (c : Cf) (h : AH) (H : Hp) (z : D) (Q : VK) : Prop := ∀ c' v H', Rel w c' h H' → Ext c H c' H' → Rep w c' z v → Q v H'
theorem Gives.same {w : Wd} {c : Cf} {h : AH} {H : Hp} {z : D} {Q : VK} (g : Gives w c h H z Q) (R : Rel w c h H) {v : V} (r : Rep w c z v) : Q v H := g c v H R (.refl R.sub) r
theorem Gives.int {w : Wd} {c : Cf} {h : AH} {H : Hp} {z : Int} {Q : VK} (g : Gives w c h H (.int z) Q) (R : Rel w c h H) : Q (.int z) H := g.same R (by simp [Rep])
theorem Gives.bl {w : Wd} {c : Cf} {h : AH} {H : Hp} {z : Bool} {Q : VK} (g : Gives w c h H (.bl z) Q) (R : Rel w c h H) : Q (.bl z) H := g.same R (by simp [Rep])
theorem Gives.str {w : Wd} {c : Cf} {h : AH} {H : Hp} {z : Str} {Q : VK} (g : Gives w c h H (.str z) Q) (R : Rel w c h H) : Q (.str z) H := g.same R (by simp [Rep])
theorem Gives.non {w : Wd} {c : Cf} {h : AH} {H : Hp} {Q : VK} (g : Gives w c h H .non Q) (R : Rel w c h H) : Q .non H := g.same R (by simp [Rep])
theorem Gives.lst {w : Wd} {c : Cf} {h : AH} {H : Hp} {zs : List D} {vs : List V} {Q : VK} (g : Gives w c h H (.lst zs) Q) (R : Rel w c h H) (r : RepL w c zs vs) (p : Addr) (hp : H p = none) : Q (.ref p) (upd H p (.lst vs)) := by
  obtain ⟨R', E⟩ := R.lay (H' := upd H p (.lst vs)) (u := .lst vs) hp (fun a v e => by rw [upd_ne (ne_of_none e hp)]; exact e) upd_same
  refine g _ _ _ R' E ?_
  simp only [Rep]
  exact ⟨p, vs, rfl, ⟨upd_same, R.noidNew hp⟩, r.ext E⟩
theorem Gives.tup {w : Wd} {c : Cf} {h : AH} {H : Hp} {zs : List D} {vs : List V} {Q : VK} (g : Gives w c h H (.tup zs) Q) (R : Rel w c h H) (r : RepL w c zs vs) (p : Addr) (hp : H p = none) : Q (.ref p) (upd H p (.tup vs)) := by
  obtain ⟨R', E⟩ := R.lay (H' := upd H p (.tup vs)) (u := .tup vs) hp (fun a v e => by rw [upd_ne (ne_of_none e hp)]; exact e) upd_same
  refine g _ _ _ R' E ?_
  simp only [Rep]
  exact ⟨p, vs, rfl, .inl ⟨.inl upd_same, R.noidNew hp⟩, r.ext E⟩
def Op2 (w : Wd) (r : R2) (g : AH → D → D → Option D) : Prop := ∀ c h H x y z v u Q, Rel w c h H → Rep w c x v → Rep w c y u → g h x y = some z → Gives w c h H z Q → r v u H Q
def Op1 (w : Wd) (r : V → Hp → VK → Prop) (g : AH → D → Option D) : Prop := ∀ c h H x z v Q, Rel w c h H → Rep w c x v → g h x = some z → Gives w c h H z Q → r v H Q
def OpN (w : Wd) (r : List V → Hp → VK → Prop) (g : AH → List D → Option D) : Prop := ∀ c h H xs z vs Q, Rel w c h H → RepL w c xs vs → g h xs = some z → Gives w c h H z Q → r vs H Q
def Op1.or {w : Wd} {r r' : V → Hp → VK → Prop} {g g' : AH → D → Option D} (a : Op1 w r g) (b : Op1 w r' g') : Op1 w (fun x H Q => r x H Q ∨ r' x H Q) (fun h x => (g h x).or (g' h x)) := fun c h H x z v Q R r1 e G => by
  dsimp only at e
  cases q : g h x with
  | some z' => rw [q] at e; simp at e; subst e; exact .inl (a c h H x _ v Q R r1 q G)
  | none => rw [q] at e; exact .inr (b c h H x z v Q R r1 (by simpa using e) G)
theorem Op2.or {w : Wd} {r r' : R2} {g g' : AH → D → D → Option D} (a : Op2 w r g) (b : Op2 w r' g') : Op2 w (fun x y H Q => r x y H Q ∨ r' x y H Q) (fun h x y => (g h x y).or (g' h x y)) := fun c h H x y z v u Q R r1 r2 e G => by
  dsimp only at e
  cases q : g h x y with
  | some z' => rw [q] at e; simp at e; subst e; exact .inl (a c h H x y _ v u Q R r1 r2 q G)
  | none => rw [q] at e; exact .inr (b c h H x y z v u Q R r1 r2 (by simpa using e) G)
theorem OpN.or {w : Wd} {r r' : List V → Hp → VK → Prop} {g g' : AH → List D → Option D} (a : OpN w r g) (b : OpN w r' g') : OpN w (fun x H Q => r x H Q ∨ r' x H Q) (fun h x => (g h x).or (g' h x)) := fun c h H x z v Q R r1 e G => by
  dsimp only at e
  cases q : g h x with
  | some z' => rw [q] at e; simp at e; subst e; exact .inl (a c h H x _ v Q R r1 q G)
  | none => rw [q] at e; exact .inr (b c h H x z v Q R r1 (by simpa using e) G)

/-! ### expressions -/
def optR {α : Type} (o : Option α) (h : AH) : Res α := match o with
  | some z => .ok z h
  | none => .st
def eVar (i : Nat) : ME := fun s h => match s[i]? with
  | some (some d) => .ok d h
  | _ => .st
def eC (d : D) : ME := fun _ h => .ok d h
def eBin (g : AH → D → D → Option D) (a b : ME) : ME := fun s h => (a s h).bind fun x h1 => (b s h1).bind fun y h2 => optR (g h2 x y) h2
def eUn (g : AH → D → Option D) (a : ME) : ME := fun s h => (a s h).bind fun x h1 => optR (g h1 x) h1
def aNil : MA := fun _ h => .ok [] h
def aCons (a : ME) (b : MA) : MA := fun s h => (a s h).bind fun x h1 => (b s h1).bind fun xs h2 => .ok (x :: xs) h2
def eTup (a : MA) : ME := fun s h => (a s h).bind fun xs h1 => if xs.length ≤ 100000 then .ok (.tup xs) h1 else .st
def eLst (a : MA) : ME := fun s h => (a s h).bind fun xs h1 => if xs.length ≤ 100000 then .ok (.lst xs) h1 else .st
/-- a list that is written later -/
def eLstN (a : MA) : ME := fun s h => (a s h).bind fun xs h1 => if xs.length ≤ 100000 then .ok (.ref h1.n) (h1.new (.lst xs)) else .st
/-- a built-in function of values -/
def eFn (g : AH → List D → Option D) (a : MA) : ME := fun s h => (a s h).bind fun xs h1 => optR (g h1 xs) h1
def eIf (t : MT) (a b : ME) : ME := fun s h => (t s h).bind fun k h1 => if k = true then a s h1 else b s h1
theorem size5 {n : Nat} (h : n ≤ 100000) : n ≤ sizeLine := Nat.le_trans h (by rw [sizeLine_eq]; decide)
section
variable {X : Cx} {T : Nat → Addr} {W : WX} {a b e : Expr} {es : List Expr} {ma mb : ME} {mt : MT} {ms : MA} {pos : Pos}
theorem r_var (i : Nat) {x : Str} (hN : X.N[i]? = some x := by rfl) (hv : Vis X.env.scope x := by first | exact Or.inl rfl | exact Or.inr (Or.inl rfl) | exact Or.inr (Or.inr rfl)) (hd : (x == ("__debug__" : Str)) = false := by decide)
    (hcd : (x == ("__classdict__" : Str)) = false := by decide) : PE X (.Name x pos) (tM (Wd.mk X.K T) W (eVar i)) :=
  PEi (pe_var hN hv hd hcd) fun σ H Q ⟨c, s, h, R, S, o⟩ => by
    simp only [eVar] at o
    split at o
    · rename_i d e
      obtain ⟨v, e1, r⟩ := S.get e
      exact ⟨v, e1, o c v H R (.refl R.sub) r⟩
    · exact o.elim
theorem r_c {v : V} {d : D} (hv : ∀ c, Rep (Wd.mk X.K T) c d v) (h : PE X e (tC v)) : PE X e (tM (Wd.mk X.K T) W (eC d)) := PEi h fun σ H Q ⟨c, s, h, R, S, o⟩ => o c v H R (.refl R.sub) (hv c)
theorem r_int {i j} : PE X (.Constant (.int i) j pos) (tM (Wd.mk X.K T) W (eC (.int i))) := r_c (fun c => by simp [Rep]) pe_int
theorem r_bl {b j} : PE X (.Constant (.bool b) j pos) (tM (Wd.mk X.K T) W (eC (.bl b))) := r_c (fun c => by simp [Rep]) pe_bl
theorem r_non {j} : PE X (.Constant .none j pos) (tM (Wd.mk X.K T) W (eC .non)) := r_c (fun c => by simp [Rep]) pe_non
theorem r_str {x j} : PE X (.Constant (.str x) j pos) (tM (Wd.mk X.K T) W (eC (.str x))) := r_c (fun c => by simp [Rep]) pe_str
theorem r_glob {x : Str} {v : V} {d : D} {u : Value} (hm : X.mg x = some u) (hv : ∀ c, Rep (Wd.mk X.K T) c d v) (r : RelV v u) (hg : Gl X x := by rfl) (hd : (x == ("__debug__" : Str)) = false := by decide) : PE X (.Name x pos) (tM (Wd.mk X.K T) W (eC d)) := r_c hv (pe_glob hg hm r hd)
/-- two values, then an operation -/
theorem two {f : Sl → D → D → AH → Res D} {σ : L2.St} {H : Hp} {Q : VK} {R' : V → V → Hp → Prop} (z : tM (Wd.mk X.K T) W (fun s h => (ma s h).bind fun x h1 => (mb s h1).bind fun y h2 => f s x y h2) σ H Q)
    (k : ∀ c2 s h2 H2 x y v u, Rel (Wd.mk X.K T) c2 h2 H2 → RelS (Wd.mk X.K T) c2 s σ → Rep (Wd.mk X.K T) c2 x v → Rep (Wd.mk X.K T) c2 y u → Out (Wd.mk X.K T) c2 H2 (fun cls dd H' => W cls dd σ H') (Rep (Wd.mk X.K T)) Q (f s x y h2) → R' v u H2) :
    tM (Wd.mk X.K T) W ma σ H fun v H1 => tM (Wd.mk X.K T) W mb σ H1 fun u H2 => R' v u H2 := by
  obtain ⟨c, s, h, R, S, o⟩ := z
  refine ⟨c, s, h, R, S, (Out.bind (A := Rep (Wd.mk X.K T)) o).mono ?_⟩
  rintro v H1 ⟨c1, h1, x, R1, E1, r1, o1⟩
  refine ⟨c1, s, h1, R1, S.ext E1, (Out.bind (A := Rep (Wd.mk X.K T)) o1).mono ?_⟩
  rintro u H2 ⟨c2, h2, y, R2, E2, r2, o2⟩
  exact k c2 s h2 H2 x y v u R2 ((S.ext E1).ext E2) (r1.ext E2) r2 o2
theorem one {f : Sl → D → AH → Res D} {σ : L2.St} {H : Hp} {Q : VK} {R' : V → Hp → Prop} (z : tM (Wd.mk X.K T) W (fun s h => (ma s h).bind (f s)) σ H Q)
    (k : ∀ c2 s h2 H2 x v, Rel (Wd.mk X.K T) c2 h2 H2 → RelS (Wd.mk X.K T) c2 s σ → Rep (Wd.mk X.K T) c2 x v → Out (Wd.mk X.K T) c2 H2 (fun cls dd H' => W cls dd σ H') (Rep (Wd.mk X.K T)) Q (f s x h2) → R' v H2) :
    tM (Wd.mk X.K T) W ma σ H R' := by
  obtain ⟨c, s, h, R, S, o⟩ := z
  refine ⟨c, s, h, R, S, (Out.bind (A := Rep (Wd.mk X.K T)) o).mono ?_⟩
  rintro v H1 ⟨c1, h1, x, R1, E1, r1, o1⟩
  exact k c1 s h1 H1 x v R1 (S.ext E1) r1 o1
theorem oneA {f : Sl → List D → AH → Res D} {σ : L2.St} {H : Hp} {Q : VK} {R' : List V → Hp → Prop} (z : tM (Wd.mk X.K T) W (fun s h => (ms s h).bind (f s)) σ H Q)
    (k : ∀ c2 s h2 H2 x v, Rel (Wd.mk X.K T) c2 h2 H2 → RelS (Wd.mk X.K T) c2 s σ → RepL (Wd.mk X.K T) c2 x v → Out (Wd.mk X.K T) c2 H2 (fun cls dd H' => W cls dd σ H') (Rep (Wd.mk X.K T)) Q (f s x h2) → R' v H2) :
    tA (Wd.mk X.K T) W ms σ H R' := by
  obtain ⟨c, s, h, R, S, o⟩ := z
  refine ⟨c, s, h, R, S, (Out.bind (A := RepL (Wd.mk X.K T)) o).mono ?_⟩
  rintro v H1 ⟨c1, h1, x, R1, E1, r1, o1⟩
  exact k c1 s h1 H1 x v R1 (S.ext E1) r1 o1
theorem optOut {w : Wd} {c : Cf} {H : Hp} {E : XK} {o : Option D} {h : AH} {Q : VK} (z : Out w c H E (Rep w) Q (optR o h)) : ∃ d, o = some d ∧ Gives w c h H d Q := by
  cases o with
  | none => exact False.elim z
  | some d => exact ⟨d, rfl, z⟩
theorem r_op {op : Operator} {r : R2} {g : AH → D → D → Option D} (ho : OpR X (binaryOp op) r) (hg : Op2 (Wd.mk X.K T) r g) (ha : PE X a (tM (Wd.mk X.K T) W ma)) (hb : PE X b (tM (Wd.mk X.K T) W mb)) : PE X (.BinOp a op b pos) (tM (Wd.mk X.K T) W (eBin g ma mb)) :=
  PEi (pe_op ho ha hb) fun σ H Q z => two z fun c2 s h2 H2 x y v u R2 S2 r1 r2 o => by
    obtain ⟨d, e, G⟩ := optOut o
    exact hg c2 h2 H2 x y d v u Q R2 r1 r2 e G
theorem r_un {op : UnaryOp} {r : V → Hp → VK → Prop} {g : AH → D → Option D} (ho : UnR X (unaryOp op) r) (hg : Op1 (Wd.mk X.K T) r g) (ha : PE X a (tM (Wd.mk X.K T) W ma)) : PE X (.UnaryOp op a pos) (tM (Wd.mk X.K T) W (eUn g ma)) :=
  PEi (pe_un ho ha) fun σ H Q z => one z fun c2 s h2 H2 x v R2 S2 r1 o => by
    obtain ⟨d, e, G⟩ := optOut o
    exact hg c2 h2 H2 x d v Q R2 r1 e G
theorem r_cmp {op : CmpOp} {r : R2} {g : AH → D → D → Option D} (ho : OpR X (compareOp op) r) (hg : Op2 (Wd.mk X.K T) r g) (ha : PE X a (tM (Wd.mk X.K T) W ma)) (hb : PE X b (tM (Wd.mk X.K T) W mb)) (hm : behindInMarks op b = false) : PE X (.Compare a [op] [b] pos) (tM (Wd.mk X.K T) W (eBin g ma mb)) :=
  PEi (pe_cmpR ho ha hb hm) fun σ H Q z => two z fun c2 s h2 H2 x y v u R2 S2 r1 r2 o => by
    obtain ⟨d, e, G⟩ := optOut o
    exact hg c2 h2 H2 x y d v u Q R2 r1 r2 e G
theorem r_nil : PA X [] (tA (Wd.mk X.K T) W aNil) := PAi pa_nil fun σ H Q ⟨c, s, h, R, S, o⟩ => o c [] H R (.refl R.sub) .nil
theorem r_cons (ha : PE X e (tM (Wd.mk X.K T) W ma)) (hr : PA X es (tA (Wd.mk X.K T) W ms)) (hs : starEach (e :: es) X.env = (false, eval e X.env) :: starEach es X.env := by rfl) : PA X (e :: es) (tA (Wd.mk X.K T) W (aCons ma ms)) :=
  PAi (pa_cons ha hr hs) fun σ H Q z => by
    obtain ⟨c, s, h, R, S, o⟩ := z
    refine ⟨c, s, h, R, S, (Out.bind (A := Rep (Wd.mk X.K T)) o).mono ?_⟩
    rintro v H1 ⟨c1, h1, x, R1, E1, r1, o1⟩
    refine ⟨c1, s, h1, R1, S.ext E1, (Out.bind (A := RepL (Wd.mk X.K T)) o1).mono ?_⟩
    rintro vs H2 ⟨c2, h2, xs, R2, E2, r2, o2⟩
    exact o2 c2 (v :: vs) H2 R2 (.refl R2.sub) (.cons (r1.ext E2) r2)
theorem r_tup {x1} (ha : PA X es (tA (Wd.mk X.K T) W ms)) : PE X (.Tuple es x1 pos) (tM (Wd.mk X.K T) W (eTup ms)) :=
  PEi (pe_tup ha) fun σ H Q z => oneA z fun c2 s h2 H2 x v R2 S2 r1 o => by
    by_cases hl : x.length ≤ 100000
    · rw [if_pos hl] at o
      exact ⟨by rw [← r1.len]; exact size5 hl, fun p hp => Gives.tup (h := h2) o R2 r1 p hp⟩
    · rw [if_neg hl] at o
      exact o.elim
theorem r_lst (ha : PA X es (tA (Wd.mk X.K T) W ms)) : PE X (.List es pos) (tM (Wd.mk X.K T) W (eLst ms)) :=
  PEi (pe_lst ha) fun σ H Q z => oneA z fun c2 s h2 H2 x v R2 S2 r1 o => by
    by_cases hl : x.length ≤ 100000
    · rw [if_pos hl] at o
      exact ⟨by rw [← r1.len]; exact size5 hl, fun p hp => Gives.lst (h := h2) o R2 r1 p hp⟩
    · rw [if_neg hl] at o
      exact o.elim
theorem newId {w : Wd} {c : Cf} {h : AH} {H : Hp} {o : AO} {u : HO} {E : XK} {Q : VK} (z : Out w c H E (Rep w) Q (.ok (.ref h.n) (h.new o))) (R : Rel w c h H) (r : RepO w c o u) (p : Addr) (hp : H p = none) : Q (.ref p) (upd H p u) := by
  obtain ⟨R', E⟩ := R.add (H' := upd H p u) (u := u) hp (fun a v e => by rw [upd_ne (ne_of_none e hp)]; exact e) upd_same r
  refine z _ _ _ R' E ?_
  simp only [Rep]
  refine ⟨?_, ?_⟩
  · show V.ref p = V.ref (if h.n = c.n then p else _)
    rw [if_pos R.n.symm]
  · show h.n < c.n + 1
    rw [R.n]
    exact Nat.lt_succ_self _
theorem r_lstN (ha : PA X es (tA (Wd.mk X.K T) W ms)) : PE X (.List es pos) (tM (Wd.mk X.K T) W (eLstN ms)) :=
  PEi (pe_lst ha) fun σ H Q z => oneA z fun c2 s h2 H2 x v R2 S2 r1 o => by
    by_cases hl : x.length ≤ 100000
    · rw [if_pos hl] at o
      exact ⟨by rw [← r1.len]; exact size5 hl, fun p hp => newId o R2 ⟨v, rfl, r1⟩ p hp⟩
    · rw [if_neg hl] at o
      exact o.elim
theorem r_if (ht : PT X e (tT (Wd.mk X.K T) W mt)) (ha : PE X a (tM (Wd.mk X.K T) W ma)) (hb : PE X b (tM (Wd.mk X.K T) W mb)) : PE X (.IfExp e a b pos) (tM (Wd.mk X.K T) W (eIf mt ma mb)) :=
  PEi (pe_ifExp ht ha hb) fun σ H Q z => by
    obtain ⟨c, s, h, R, S, o⟩ := z
    refine ⟨c, s, h, R, S, (Out.bind (A := fun _ a b => a = b) o).mono ?_⟩
    rintro k H1 ⟨c1, h1, k', R1, E1, rfl, o1⟩
    cases k' with
    | true => exact ⟨c1, s, h1, R1, S.ext E1, o1⟩
    | false => exact ⟨c1, s, h1, R1, S.ext E1, o1⟩
end
end MP
set_option Elab.async false
set_option linter.all false
set_option maxRecDepth 100000
set_option maxHeartbeats 4000000
/-! mirrors: functions of the text, calls, methods, new instances -/
namespace MP
open PySem PySem.Spec L2
open PyProof.Rows hiding St

/-! ### room, and no repr under way -/
structure Rm (k : Nat) (A : Around) : Prop where
  r : Room k A
  g : A.guards = some []
theorem Rm.mono {j k : Nat} {A : Around} (z : Rm k A) (h : j ≤ k) : Rm j A := ⟨z.r.mono h, z.g⟩
theorem Rm.deeper {k : Nat} {A : Around} (z : Rm (k + 1) A) (env : Env) : Rm k (A.deeper env) := ⟨z.r.deeper env, z.g⟩
theorem Rm.make {k : Nat} {A : Around} (z : Rm (k + 1) A) (C : Addr) (us : List Value) (kw : List (Str × Value)) : Rm k (A.under (.builtin "type.__call__" ⟨.ref C :: us, kw⟩)) :=
  ⟨z.r.make C us kw, z.g⟩

/-- what a mirror promises of the def that it mirrors -/
def spM (w : Wd) (f : MF) : Sp := fun vs H Q E => ∃ c ds h, Rel w c h H ∧ RepL w c ds vs ∧ Out w c H E (Rep w) Q (f ds h)
/-- a def of the text: the body over the slots; ar parameters, n slots -/
def fnM (ar n : Nat) (b : MS) : MF := fun ds h => if ds.length = ar then
    match b (ds.map some ++ List.replicate (n - ar) none) h with
    | .nx _ h' => .ok .non h'
    | .rt d h' => .ok d h'
    | .ex e _ h' => .ex e h'
    | _ => .st
  else .st
/-- the def at f runs as the mirror says -/
structure Fn (P : Program) (w : World) (K : PySem.W.Frag) (T : Nat → Addr) (mg : Str → Option Value) (base : Heap) (k : Nat) (f : Addr) (fd : FuncData) (ps : List Str) (m : MF) : Prop where
  run : ∀ (A : Around) (outer : List Env) (s : Shared) (H : Hp) (args : Args) (us : List Value) (vs : List V) (Q : VK) (E : XK), Rm k A → Env0 P w K mg base A outer s H →
    BindsTo s fd args (ps.zip us) → Vals vs us → spM ⟨K, T⟩ m vs H Q E → codeAny (model P w) A (.call (.ref f) args) (CR (L2.CX P w) outer P w H s Q E) s
theorem Fn.mono {P : Program} {w : World} {K : PySem.W.Frag} {T : Nat → Addr} {mg : Str → Option Value} {base : Heap} {j k : Nat} {f : Addr} {fd : FuncData} {ps : List Str} {m : MF} (F : Fn P w K T mg base j f fd ps m) (h : j ≤ k) : Fn P w K T mg base k f fd ps m :=
  ⟨fun A outer s H args us vs Q E hr => F.run A outer s H args us vs Q E (hr.mono h)⟩

theorem start_rel {w : Wd} {c : Cf} : ∀ {ds : List D} {vs : List V} (k : Nat), RepL w c ds vs → RelS w c (ds.map some ++ List.replicate k none) (vs.map some ++ List.replicate k none)
  | [], vs, k, r => by
    obtain rfl : vs = [] := by simpa [RepL] using r
    show RelS w c (List.replicate k none) (List.replicate k none)
    induction k with
    | zero => exact rfl
    | succ k ih => exact ⟨none, _, rfl, ih⟩
  | d :: ds, vs, k, r => by
    simp only [RepL] at r
    obtain ⟨x, xs, rfl, r1, r2⟩ := r
    exact ⟨x, _, rfl, r1, start_rel k r2⟩

section
variable {P : Program} {w : World} {K : PySem.W.Frag} {T : Nat → Addr} {mg : Str → Option Value} {base : Heap}
/-- the body's mirror gives the def's. X: where the body runs -/
theorem Fn.of {x qual : Str} {params : Arguments} {body : List Stmt} {scope : Scope} {dvs : List V} {kws : List (Str × V)} {f : Addr} {fd : FuncData} {N ps : List Str} {k : Nat} {b : MS}
    (F : FunD K x qual params body scope dvs kws f fd) (S : FnScope N ps scope)
    (hb : ∀ (cdv : Value) (A : Around) (outer : List Env) (s : Shared) (H : Hp) (E : XK), Rm k (A.deeper (envOfC qual scope s.heap.objs.size f cdv)) →
      PSs (cxOf (L2.CX P w) P w K mg base N qual scope f cdv A outer s H E) body (tS ⟨K, T⟩ (fun cls d _ H' => E cls d H') b)) :
    Fn P w K T mg base (k + 1) f fd ps (fnM ps.length N.length b) := by
  obtain ⟨oc, od, dV, kV, doc, pm, an, cdv, ct, osl, rfl, lk, hcd, _, _⟩ := F.ex
  refine ⟨fun A outer s H args us vs Q E hr e0 hbi r hsp => ?_⟩
  obtain ⟨c, ds, h, R, rl, o⟩ := hsp
  have dl : ds.length = ps.length := Classical.byContradiction fun z => by
    unfold fnM at o
    rw [if_neg z] at o
    exact o
  have hl : vs.length = ps.length := rl.len.symm.trans dl
  have kb := fun a o e => (e0.bs a o e).1
  have KX : K.In s.heap := e0.mod.kin.keeps kb
  have lim := e0.mod.nolimit.keeps kb
  have kinds : ∀ y ∈ ps.zip us, scope.names.lookup y.1 = some .local ∨ (scope.names.lookup y.1 = some .cell ∧ ((cellsFrom (s.heap.objs.size + 1) scope.names []).lookup y.1).isSome = true) := fun y hy =>
    (S.par y.1 (List.of_mem_zip (show (y.1, y.2) ∈ _ from hy)).1).imp id fun q => ⟨q, PySem.W.cellsFrom_some _ _ _ (.inl q)⟩
  refine codeAny_call_function hr.r.depth (KX _ _ lk) rfl S.co S.gen rfl (PySem.W.codeRec_of KX hcd) (hbi _ _ _ _ (wpAny_newFunctionEnv_cells S.kind kinds fun env he s1 x => ?_))
  subst he
  refine ⟨lim.keeps x.toInCall.keep, codeAny_func ?_⟩
  have ht := hb cdv A outer s H E (hr.deeper _)
  have I := inv_start (CX := L2.CX P w) (E := E) S hr.r.hd e0 hl r x
  have go : tS ⟨K, T⟩ (fun cls d _ H' => E cls d H') b { nx := fun _ H' => Q .non H', rt := Q } (start N vs) H := by
    refine ⟨c, ds.map some ++ List.replicate (N.length - ps.length) none, h, R, ?_, ?_⟩
    · have e := start_rel (N.length - ps.length) rl
      rw [← hl] at e ⊢
      exact e
    · unfold fnM at o
      rw [if_pos dl] at o
      cases q : b (ds.map some ++ List.replicate (N.length - ps.length) none) h with
      | nx s' h' => rw [q] at o; exact fun c' σ' H' R' e' r' => o c' .non H' R' e' (by simp [Rep])
      | rt d h' => rw [q] at o; exact o
      | ex e s' h' => rw [q] at o; exact fun c' cls dd σ' H' R' e' _ r' => o c' cls dd H' R' e' r'
      | bk s' h' => rw [q] at o; exact o.elim
      | ct s' h' => rw [q] at o; exact o.elim
      | st => rw [q] at o; exact o.elim
  refine wpAny_mono (ht.run [] s1 (start N vs) H _ I go) (fun fl s' hs => ?_) fun e s' hs => hs
  cases fl with
  | ret u =>
    obtain ⟨v, σ', H', J, rv, q⟩ := hs
    exact ⟨v, H', J.os, J.bare, J.base, J.hok, rv, q⟩
  | next =>
    obtain ⟨σ', H', J, q⟩ := hs
    exact ⟨.non, H', J.os, J.bare, J.base, J.hok, rfl, q⟩
  | brk => exact hs.elim fun _ z => z.elim fun _ z => z.2.elim
  | cont => exact hs.elim fun _ z => z.elim fun _ z => z.2.elim
end

/-! ### how arguments come to parameters -/
/-- whence a parameter's value: the written ones, the defaults, the keyword-only defaults, the keywords -/
inductive Src where
  | us | its | mv | ws
def pick {α : Type} (us its mv ws : List α) : Src → List α
  | .us => us
  | .its => its
  | .mv => mv
  | .ws => ws
def gSel (l : List (Src × Nat)) {α : Type} (us its mv ws : List α) : List α := l.flatMap fun p => ((pick us its mv ws p.1).drop p.2).take 1
theorem gSel_vals {a a1 a2 a3 : List V} {b b1 b2 b3 : List Value} (h : Vals a b) (h1 : Vals a1 b1) (h2 : Vals a2 b2) (h3 : Vals a3 b3) : ∀ l : List (Src × Nat), Vals (gSel l a a1 a2 a3) (gSel l b b1 b2 b3)
  | [] => .nil
  | p :: l => by
    have e : ∀ q : Src, Vals (pick a a1 a2 a3 q) (pick b b1 b2 b3 q) := fun q => by cases q <;> assumption
    exact ((e p.1).drop p.2 |>.take 1).append (gSel_vals h h1 h2 h3 l)
theorem gSel_rep {w : Wd} {c : Cf} {a a1 a2 a3 : List D} {b b1 b2 b3 : List V} (h : RepL w c a b) (h1 : RepL w c a1 b1) (h2 : RepL w c a2 b2) (h3 : RepL w c a3 b3) : ∀ l : List (Src × Nat), RepL w c (gSel l a a1 a2 a3) (gSel l b b1 b2 b3)
  | [] => .nil
  | p :: l => by
    have e : ∀ q : Src, RepL w c (pick a a1 a2 a3 q) (pick b b1 b2 b3 q) := fun q => by cases q <;> assumption
    exact ((e p.1).drop p.2 |>.take 1).append (gSel_rep h h1 h2 h3 l)
/-- n written values and the keywords ks come to the parameters as l says; dv, mv: the defaults -/
structure Bd (K : PySem.W.Frag) (fd : FuncData) (ps : List Str) (n : Nat) (ks : List Str) (l : List (Src × Nat)) (dv mv : List V) : Prop where
  to : ∃ its mw : List Value, Vals dv its ∧ Vals mv mw ∧ ∀ (s : Shared) (us ws : List Value), K.In s.heap → us.length = n → ws.length = ks.length → BindsTo s fd ⟨us, ks.zip ws⟩ (ps.zip (gSel l us its mw ws))
section
variable {K : PySem.W.Frag} {x qual : Str} {params : Arguments} {body : List Stmt} {scope : Scope} {dvs : List V} {kws : List (Str × V)} {f : Addr} {fd : FuncData} {ps : List Str} {n : Nat} {ks : List Str} {l : List (Src × Nat)}
/-- no default is asked for -/
theorem bd_n (F : FunD K x qual params body scope [] kws f fd) (h : ∀ (kV doc pm : Value) (an : Option Addr) (cdv ct : Value) (us ws : List Value), us.length = n → ws.length = ks.length →
    bindArgs (PySem.W.fnOf x qual params body scope .none kV doc pm an cdv ct) ⟨us, ks.zip ws⟩ = pure (ps.zip (gSel l us [] [] ws))) : Bd K fd ps n ks l [] [] := by
  obtain ⟨oc, od, dV, kV, doc, pm, an, cdv, ct, osl, rfl, lk, hcd, hD, hK⟩ := F.ex
  rcases hD with ⟨_, rfl⟩ | ⟨e, _⟩
  · exact ⟨[], [], .nil, .nil, fun s us ws _ h1 h2 => .of_eq (h kV doc pm an cdv ct us ws h1 h2)⟩
  · exact absurd rfl e
/-- keyword-only defaults alone -/
theorem bd_k (F : FunD K x qual params body scope [] kws f fd) (ms : List (Str × V)) (hk : kws ≠ []) (hms : ∀ q ∈ ms, q ∈ kws) (h : ∀ (D : Addr) (doc pm : Value) (an : Option Addr) (cdv ct : Value) (us mv ws : List Value), us.length = n → mv.length = ms.length → ws.length = ks.length →
    KwChain D ((ms.map (·.1)).zip mv) (bindArgs (PySem.W.fnOf x qual params body scope .none (.ref D) doc pm an cdv ct) ⟨us, ks.zip ws⟩) (ps.zip (gSel l us [] mv ws))) : Bd K fd ps n ks l [] (ms.map (·.2)) := by
  obtain ⟨oc, od, dV, kV, doc, pm, an, cdv, ct, osl, rfl, lk, hcd, hD, hK⟩ := F.ex
  rcases hD with ⟨_, rfl⟩ | ⟨e, _⟩
  · rcases hK with e | ⟨D, rfl, hq⟩
    · exact absurd e hk
    · obtain ⟨mv, hl, rk, hks⟩ := kwd_vals (ms := ms) fun q hm => hq q (hms q hm)
      exact ⟨[], mv, .nil, rk, fun s us ws X h1 h2 => BindsTo.of_looks fun M => KwChain.looks X hks (h D doc pm an cdv ct us mv ws h1 hl h2)⟩
  · exact absurd rfl e
/-- positional defaults alone -/
theorem bd_d (F : FunD K x qual params body scope dvs kws f fd) (hd : dvs ≠ []) (h : ∀ (T : Addr) (kV doc pm : Value) (an : Option Addr) (cdv ct : Value) (us its ws : List Value), us.length = n → its.length = dvs.length → ws.length = ks.length →
    ∃ k, bindArgs (PySem.W.fnOf x qual params body scope (.ref T) kV doc pm an cdv ct) ⟨us, ks.zip ws⟩ = seqItems? (.ref T) >>= k ∧ k (some its.toArray) = pure (ps.zip (gSel l us its [] ws))) : Bd K fd ps n ks l dvs [] := by
  obtain ⟨oc, od, dV, kV, doc, pm, an, cdv, ct, osl, rfl, lk, hcd, hD, hK⟩ := F.ex
  rcases hD with ⟨e, _⟩ | ⟨_, T, o, its, m, rfl, lT, oT, rT⟩
  · exact absurd e hd
  · refine ⟨its, [], rT, .nil, fun s us ws X h1 h2 => ?_⟩
    obtain ⟨k, e1, e2⟩ := h T kV doc pm an cdv ct us its ws h1 rT.length.symm h2
    refine BindsTo.of_looks fun M => ?_
    rw [e1]
    exact looks_items X lT oT (.of_pure e2)
/-- both -/
theorem bd_dk (F : FunD K x qual params body scope dvs kws f fd) (ms : List (Str × V)) (hd : dvs ≠ []) (hk : kws ≠ []) (hms : ∀ q ∈ ms, q ∈ kws)
    (h : ∀ (T D : Addr) (doc pm : Value) (an : Option Addr) (cdv ct : Value) (us its mv ws : List Value), us.length = n → its.length = dvs.length → mv.length = ms.length → ws.length = ks.length →
      ∃ k, bindArgs (PySem.W.fnOf x qual params body scope (.ref T) (.ref D) doc pm an cdv ct) ⟨us, ks.zip ws⟩ = seqItems? (.ref T) >>= k ∧ KwChain D ((ms.map (·.1)).zip mv) (k (some its.toArray)) (ps.zip (gSel l us its mv ws))) : Bd K fd ps n ks l dvs (ms.map (·.2)) := by
  obtain ⟨oc, od, dV, kV, doc, pm, an, cdv, ct, osl, rfl, lk, hcd, hD, hK⟩ := F.ex
  rcases hD with ⟨e, _⟩ | ⟨_, T, o, its, m, rfl, lT, oT, rT⟩
  · exact absurd e hd
  · rcases hK with e | ⟨D, rfl, hq⟩
    · exact absurd e hk
    · obtain ⟨mv, hl, rk, hks⟩ := kwd_vals (ms := ms) fun q hm => hq q (hms q hm)
      refine ⟨its, mv, rT, rk, fun s us ws X h1 h2 => ?_⟩
      obtain ⟨k, e1, e2⟩ := h T D doc pm an cdv ct us its mv ws h1 rT.length.symm hl h2
      refine BindsTo.of_looks fun M => ?_
      rw [e1]
      exact looks_items X lT oT (KwChain.looks X hks e2)
end

/-! ### the arguments of a call, whatever is called -/
structure CArgs (X : Cx) (es : List Expr) (kws : List Keyword) (pos : Pos) (ks : List Str) (ta tk : TA) : Prop where
  run : ∀ (g : Value) (first : List Value), PySem.W.keepIn X.K g = true → ∀ (pins : List (Addr × Obj)) (s : Shared) (σ : L2.St) (H : Hp) (R : List V → List V → Hp → Prop) (Q : Value → Shared → Prop), Inv X pins σ H s →
    (ta σ H fun vs H1 => tk σ H1 fun zs H2 => R vs zs H2) →
    (∀ us ws vs zs H2 s2, Inv X pins σ H2 s2 → Vals vs us → Vals zs ws → R vs zs H2 → wpAny (model X.prog X.w) X.A (call g (first ++ us) (ks.zip ws)) Q X.xe s2) →
    wpAny (model X.prog X.w) X.A (callWith pos g first (backTo pos (starEach es X.env)) (backToKw pos (keywordEach kws X.env))) Q X.xe s
section
variable {X : Cx} {e : Expr} {es : List Expr} {kws : List Keyword} {pos : Pos} {ks : List Str} {ta tk : TA}
theorem ca0 : CArgs X [] [] pos [] tNil tNil := ⟨fun g first hk pins s σ H R Q I h go => PySem.W.callWith_K0 I.kIn hk (go [] [] [] [] H s I .nil .nil h)⟩
theorem caP (ha : PA X (e :: es) ta) (he : starEach (e :: es) X.env = (false, eval e X.env) :: starEach es X.env := by rfl) (hpl : (backTo pos (starEach es X.env)).any (·.1) = false := by rfl) : CArgs X (e :: es) [] pos [] ta tNil :=
  ⟨fun g first hk pins s σ H R Q I h go => PySem.W.callWith_K (h₀ := X.base) I.ok.mod.kin hk
    (thn (ha.run pos pins s σ H _ I h) fun us s1 ⟨vs, H1, I1, r, q⟩ => ⟨I1.kIn, go us [] vs [] H1 s1 I1 r .nil q⟩) he hpl⟩
theorem caK (hkw : PK X kws tk) (hall : (backToKw pos (keywordEach kws X.env)).all (·.1.isSome) = true := by rfl) (hks : (backToKw pos (keywordEach kws X.env)).filterMap (·.1) = ks := by rfl)
    (hpl : ((backTo pos (starEach [] X.env)).any (·.1) || (backToKw pos (keywordEach kws X.env)).any (·.1.isNone)) = false := by rfl) : CArgs X [] kws pos ks tNil tk :=
  ⟨fun g first hk pins s σ H R Q I h go => PySem.W.callWith_KW0 (h₀ := X.base) I.ok.mod.kin hk hall
    (thn (hkw.run pos pins s σ H _ I h) fun ws s2 ⟨zs, H2, I2, rz, q⟩ => ⟨I2.kIn, by rw [hks]; exact go [] ws [] zs H2 s2 I2 .nil rz q⟩) hpl⟩
theorem caPK (ha : PA X (e :: es) ta) (hkw : PK X kws tk) (hall : (backToKw pos (keywordEach kws X.env)).all (·.1.isSome) = true := by rfl) (hks : (backToKw pos (keywordEach kws X.env)).filterMap (·.1) = ks := by rfl)
    (he : starEach (e :: es) X.env = (false, eval e X.env) :: starEach es X.env := by rfl) (hpl : ((backTo pos (starEach (e :: es) X.env)).any (·.1) || (backToKw pos (keywordEach kws X.env)).any (·.1.isNone)) = false := by rfl) :
    CArgs X (e :: es) kws pos ks ta tk :=
  ⟨fun g first hk pins s σ H R Q I h go => PySem.W.callWith_KW (h₀ := X.base) I.ok.mod.kin hk hall
    (thn (ha.run pos pins s σ H _ I h) fun us s1 ⟨vs, H1, I1, r, q⟩ => thn (hkw.run pos pins s1 σ H1 _ I1 q) fun ws s2 ⟨zs, H2, I2, rz, q2⟩ => ⟨I2.kIn, by rw [hks]; exact go us ws vs zs H2 s2 I2 r rz q2⟩) hpl he⟩
end

section
variable {X : Cx} {T : Nat → Addr} {W : WX} {e : Expr} {es : List Expr} {kws : List Keyword} {pos : Pos} {ks : List Str} {ma mk : MA}
theorem tA_nil {σ : L2.St} {H : Hp} {Q : List V → Hp → Prop} (z : tA (Wd.mk X.K T) W aNil σ H Q) : Q [] H := by
  obtain ⟨c, s, h, R, S, o⟩ := z
  exact o c [] H R (.refl R.sub) .nil
theorem tA_mono {σ : L2.St} {H : Hp} {Q Q' : List V → Hp → Prop} (z : tA (Wd.mk X.K T) W ma σ H Q) (q : ∀ vs H', Q vs H' → Q' vs H') : tA (Wd.mk X.K T) W ma σ H Q' := by
  obtain ⟨c, s, h, R, S, o⟩ := z
  exact ⟨c, s, h, R, S, o.mono q⟩
theorem ca0m : CArgs X [] [] pos [] (tA (Wd.mk X.K T) W aNil) (tA (Wd.mk X.K T) W aNil) := ⟨fun g first hk pins s σ H R Q I h go => ca0.run g first hk pins s σ H R Q I (tA_nil (tA_nil h)) go⟩
theorem caPm (ha : PA X (e :: es) (tA (Wd.mk X.K T) W ma)) (he : starEach (e :: es) X.env = (false, eval e X.env) :: starEach es X.env := by rfl) (hpl : (backTo pos (starEach es X.env)).any (·.1) = false := by rfl) : CArgs X (e :: es) [] pos [] (tA (Wd.mk X.K T) W ma) (tA (Wd.mk X.K T) W aNil) :=
  ⟨fun g first hk pins s σ H R Q I h go => (caP ha he hpl).run g first hk pins s σ H R Q I (tA_mono h fun _ _ q => tA_nil q) go⟩
theorem caKm (hkw : PK X kws (tA (Wd.mk X.K T) W mk)) (hall : (backToKw pos (keywordEach kws X.env)).all (·.1.isSome) = true := by rfl) (hks : (backToKw pos (keywordEach kws X.env)).filterMap (·.1) = ks := by rfl)
    (hpl : ((backTo pos (starEach [] X.env)).any (·.1) || (backToKw pos (keywordEach kws X.env)).any (·.1.isNone)) = false := by rfl) : CArgs X [] kws pos ks (tA (Wd.mk X.K T) W aNil) (tA (Wd.mk X.K T) W mk) :=
  ⟨fun g first hk pins s σ H R Q I h go => (caK hkw hall hks hpl).run g first hk pins s σ H R Q I (tA_nil h) go⟩
theorem caPKm (ha : PA X (e :: es) (tA (Wd.mk X.K T) W ma)) (hkw : PK X kws (tA (Wd.mk X.K T) W mk)) (hall : (backToKw pos (keywordEach kws X.env)).all (·.1.isSome) = true := by rfl) (hks : (backToKw pos (keywordEach kws X.env)).filterMap (·.1) = ks := by rfl)
    (he : starEach (e :: es) X.env = (false, eval e X.env) :: starEach es X.env := by rfl) (hpl : ((backTo pos (starEach (e :: es) X.env)).any (·.1) || (backToKw pos (keywordEach kws X.env)).any (·.1.isNone)) = false := by rfl) :
    CArgs X (e :: es) kws pos ks (tA (Wd.mk X.K T) W ma) (tA (Wd.mk X.K T) W mk) := caPK ha hkw hall hks he hpl
end

/-! ### calls by mirrors -/
def eCall (f : MF) (n m : Nat) (l : List (Src × Nat)) (dd md : List D) (a b : MA) : ME := fun s h => (a s h).bind fun xs h1 => (b s h1).bind fun zs h2 => if xs.length = n ∧ zs.length = m then f (gSel l xs dd md zs) h2 else .st
def insOf (h : AH) : D → Option (Nat × Nat × List (Str × D))
  | .ref k => match h.g k with
    | some (.ins c fs) => some (k, c, fs)
    | _ => none
  | _ => none
/-- o.m(..), o an instance of the class cl -/
def eMeth (cl : Nat) (nm : Str) (f : MF) (n m : Nat) (l : List (Src × Nat)) (dd md : List D) (o : ME) (a b : MA) : ME := fun s h => (o s h).bind fun x h0 => match insOf h0 x with
  | some (_, c, fs) => if c = cl ∧ fs.lookup nm = none then (a s h0).bind fun xs h1 => (b s h1).bind fun zs h2 => if xs.length = n ∧ zs.length = m then f (gSel l (x :: xs) dd md zs) h2 else .st else .st
  | none => .st
/-- C(..): a new instance, then __init__ -/
def eMake (cl : Nat) (f : MF) (n m : Nat) (l : List (Src × Nat)) (dd md : List D) (a b : MA) : ME := fun s h => (a s h).bind fun xs h1 => (b s h1).bind fun zs h2 =>
  if xs.length = n ∧ zs.length = m then (f (gSel l (.ref h2.n :: xs) dd md zs) (h2.new (.ins cl []))).bind fun r h3 => match r with
    | .non => .ok (.ref h2.n) h3
    | _ => .st
  else .st

section
variable {X : Cx} {T : Nat → Addr} {W : WX} {k n : Nat} {f C : Addr} {fd : FuncData} {ps ks : List Str} {mf : MF} {l : List (Src × Nat)} {dd md : List D} {dv mv : List V} {e o : Expr} {es : List Expr} {kws : List Keyword} {pos p apos : Pos} {ma mk : MA} {mo : ME} {x m : Str}
/-- the callee runs -/
theorem run_m {pins : List (Addr × Obj)} {σ : L2.St} {H : Hp} {s : Shared} {Q : VK} {us : List Value} {args : Args} {vs : List V} (tk : Takes X W) (F : Fn X.prog X.w X.K T X.mg X.base k f fd ps mf) (hr : Rm k X.A) (hb : BindsTo s fd args (ps.zip us))
    (I : Inv X pins σ H s) (r : Vals vs us) (h : spM (Wd.mk X.K T) mf vs H Q fun cls dd H' => W cls dd σ H') : wpAny (model X.prog X.w) X.A (call (.ref f) args.pos args.kw) (EP X pins σ Q) X.xe s :=
  wpAny_call (by
    obtain ⟨ap, ak⟩ := args
    refine codeAny_mono (F.run X.A X.stack s H ⟨ap, ak⟩ us vs Q (WE W σ) hr I.env0 hb r h) fun z s' hq => ?_
    cases z with
    | error e => exact passAt tk σ pins H s e s' I hq
    | ok fl =>
      cases fl with
      | ret u => exact I.after hq
      | next => exact False.elim hq
      | brk => exact False.elim hq
      | cont => exact False.elim hq)
theorem lens {w : Wd} {c : Cf} {xs zs : List D} {vs us : List V} {n m : Nat} (r1 : RepL w c xs vs) (r2 : RepL w c zs us) (h : xs.length = n ∧ zs.length = m) : vs.length = n ∧ us.length = m := ⟨by rw [← r1.len]; exact h.1, by rw [← r2.len]; exact h.2⟩
/-- two argument lists, then what is wanted of the values -/
theorem twoA {α β : Type} {A : Cf → α → β → Prop} {f : List D → List D → AH → Res α} {c : Cf} {s : Sl} {h : AH} {σ : L2.St} {H : Hp} {Q : β → Hp → Prop} {R' : List V → List V → Hp → Prop} (R : Rel (Wd.mk X.K T) c h H) (S : RelS (Wd.mk X.K T) c s σ)
    (z : Out (Wd.mk X.K T) c H (fun cls dd H' => W cls dd σ H') A Q ((ma s h).bind fun x h1 => (mk s h1).bind fun y h2 => f x y h2))
    (k : ∀ c2 h2 H2 x y v u, Rel (Wd.mk X.K T) c2 h2 H2 → RelS (Wd.mk X.K T) c2 s σ → Ext c H c2 H2 → RepL (Wd.mk X.K T) c2 x v → RepL (Wd.mk X.K T) c2 y u → Out (Wd.mk X.K T) c2 H2 (fun cls dd H' => W cls dd σ H') A Q (f x y h2) → R' v u H2) :
    tA (Wd.mk X.K T) W ma σ H fun v H1 => tA (Wd.mk X.K T) W mk σ H1 fun u H2 => R' v u H2 := by
  refine ⟨c, s, h, R, S, (Out.bind (A := RepL (Wd.mk X.K T)) z).mono ?_⟩
  rintro v H1 ⟨c1, h1, x, R1, E1, r1, o1⟩
  refine ⟨c1, s, h1, R1, S.ext E1, (Out.bind (A := RepL (Wd.mk X.K T)) o1).mono ?_⟩
  rintro u H2 ⟨c2, h2, y, R2, E2, r2, o2⟩
  exact k c2 h2 H2 x y v u R2 ((S.ext E1).ext E2) (E1.trans E2) (r1.ext E2) r2 o2
theorem r_call (tk : Takes X W) (F : Fn X.prog X.w X.K T X.mg X.base k f fd ps mf) (hr : Rm k X.A) (hm : X.mg x = some (.ref f)) (hk : PySem.W.keepIn X.K (.ref f) = true) (hb : Bd X.K fd ps n ks l dv mv) (hs : ∀ c, RepL (Wd.mk X.K T) c dd dv) (hs2 : ∀ c, RepL (Wd.mk X.K T) c md mv)
    (ha : CArgs X es kws pos ks (tA (Wd.mk X.K T) W ma) (tA (Wd.mk X.K T) W mk)) (hg : Gl X x := by rfl) (hdb : (x == ("__debug__" : Str)) = false := by decide) : PE X (.Call (.Name x p) es kws pos) (tM (Wd.mk X.K T) W (eCall mf n ks.length l dd md ma mk)) := by
  refine ⟨fun pins s σ H Q I z => wpAny_Call_Name_kw (ld_glob I hg hm ?_ hdb)⟩
  obtain ⟨c, sl, h, R, S, o⟩ := z
  refine ha.run (.ref f) [] hk pins s σ H (fun vs zs H2 => vs.length = n ∧ zs.length = ks.length ∧ spM (Wd.mk X.K T) mf (gSel l vs dv mv zs) H2 Q fun cls dd H' => W cls dd σ H') _ I ?_ ?_
  · refine twoA R S o fun c2 h2 H2 x y v u R2 S2 E2 r1 r2 o2 => ?_
    by_cases hl : x.length = n ∧ y.length = ks.length
    · rw [if_pos hl] at o2
      exact ⟨(lens r1 r2 hl).1, (lens r1 r2 hl).2, c2, _, h2, R2, gSel_rep r1 (hs c2) (hs2 c2) r2 l, o2⟩
    · rw [if_neg hl] at o2
      exact o2.elim
  · intro us ws vs zs H2 s2 I2 r1 r2 ⟨l1, l2, q⟩
    obtain ⟨its, mw, v1, v2, B⟩ := hb.to
    exact run_m (args := ⟨us, ks.zip ws⟩) tk F hr (B s2 us ws I2.kIn (r1.length.symm.trans l1) (r2.length.symm.trans l2)) I2 (gSel_vals r1 v1 v2 r2 l) q
theorem insOf_eq {h : AH} {d : D} {k c : Nat} {fs : List (Str × D)} (e : insOf h d = some (k, c, fs)) : d = .ref k ∧ h.g k = some (.ins c fs) := by
  cases d with
  | ref j =>
    simp only [insOf] at e
    split at e
    · rename_i c' fs' q
      simp only [Option.some.injEq, Prod.mk.injEq] at e
      obtain ⟨rfl, rfl, rfl⟩ := e
      exact ⟨rfl, q⟩
    · cases e
  | _ => simp [insOf] at e
theorem RepKV.lookup {w : Wd} {c : Cf} : ∀ {fs : List (Str × D)} {vs : List (Str × V)} {f : Str}, RepKV w c fs vs → (fs.lookup f = none ∧ vs.lookup f = none) ∨ ∃ d v, fs.lookup f = some d ∧ vs.lookup f = some v ∧ Rep w c d v
  | [], vs, f, r => by
    obtain rfl : vs = [] := r
    exact .inl ⟨rfl, rfl⟩
  | (g, d) :: fs, vs, f, r => by
    obtain ⟨y, ys, rfl, r1, r2⟩ := r
    rw [List.lookup_cons, List.lookup_cons]
    cases hb : f == g with
    | true => exact .inr ⟨d, y, rfl, rfl, r1⟩
    | false => exact RepKV.lookup r2
theorem RepKV.none {w : Wd} {c : Cf} {fs : List (Str × D)} {vs : List (Str × V)} {f : Str} (r : RepKV w c fs vs) (h : fs.lookup f = none) : vs.lookup f = none := by
  rcases r.lookup (f := f) with ⟨_, q⟩ | ⟨d, v, q, _⟩
  · exact q
  · rw [q] at h; cases h
/-- an instance as it lies -/
theorem insAt {w : Wd} {c : Cf} {h : AH} {H : Hp} (R : Rel w c h H) {d : D} {v : V} (r : Rep w c d v) {k cl : Nat} {fs : List (Str × D)} (e : insOf h d = some (k, cl, fs)) :
    d = .ref k ∧ h.g k = some (.ins cl fs) ∧ v = .ref (c.ρ k) ∧ ∃ dx vs, c.G (c.ρ k) = some (.ins (w.T cl) dx vs) ∧ H (c.ρ k) = some (.ins (w.T cl) dx vs) ∧ RepKV w c fs vs := by
  obtain ⟨rfl, q⟩ := insOf_eq e
  simp only [Rep] at r
  obtain ⟨u, e1, dx, vs, rfl, rf⟩ := R.at_ _ _ q
  exact ⟨rfl, q, r.1, dx, vs, e1, R.sub _ _ e1, rf⟩
theorem r_meth {cl : Nat} {pl : Sem Bool} (tk : Takes X W) (he : PE X o (tM (Wd.mk X.K T) W mo)) (c : Cls X.K (T cl)) (hm : Meth X.K (T cl) m f) (F : Fn X.prog X.w X.K T X.mg X.base k f fd ps mf) (hr : Rm k X.A) (hb : Bd X.K fd ps (n + 1) ks l dv mv) (hs : ∀ c, RepL (Wd.mk X.K T) c dd dv) (hs2 : ∀ c, RepL (Wd.mk X.K T) c md mv)
    (ha : CArgs X es kws pos ks (tA (Wd.mk X.K T) W ma) (tA (Wd.mk X.K T) W mk))
    (ht : eval (.Call (.Attribute o m apos) es kws pos) X.env = (do
      let ov ← eval o X.env
      standAt apos.atName
      let (f, first) ← holding [ov] (getMethod ov m pl)
      callWith pos f first (backTo pos (starEach es X.env)) (backToKw pos (keywordEach kws X.env))) := by rfl) :
    PE X (.Call (.Attribute o m apos) es kws pos) (tM (Wd.mk X.K T) W (eMeth cl m mf n ks.length l dd md mo ma mk)) := by
  refine ⟨fun pins s σ H Q I z => ?_⟩
  obtain ⟨c0, sl, h, R, S, z⟩ := z
  have w1 := he.run pins s σ H _ I ⟨c0, sl, h, R, S, Out.bind (A := Rep (Wd.mk X.K T)) z⟩
  refine PySem.W.methodCall_KW (pl := pl) (thn w1 fun u s1 ⟨y, H1, I1, ry, c1, h1, d, R1, E1, rd, o1⟩ => ?_) ht
  split at o1
  · rename_i kk cc fs ei
    by_cases hc : cc = cl ∧ fs.lookup m = none
    · rw [if_pos hc] at o1
      obtain ⟨rfl, q, rfl, dx, vs, e1, e2, rf⟩ := insAt R1 rd ei
      rw [hc.1] at e2
      obtain rfl : u = Value.ref (c1.ρ kk) := ry
      refine getmeth_ok I1 e2 c hm (rf.none hc.2) ?_
      refine ha.run (.ref f) [.ref (c1.ρ kk)] hm.kp pins s1 σ H1 (fun vs zs H2 => vs.length = n ∧ zs.length = ks.length ∧ spM (Wd.mk X.K T) mf (gSel l (.ref (c1.ρ kk) :: vs) dv mv zs) H2 Q fun cls dd H' => W cls dd σ H') _ I1 ?_ ?_
      · refine twoA R1 (S.ext E1) o1 fun c2 h2 H2 x y v u R2 S2 E2 r1 r2 o2 => ?_
        by_cases hl : x.length = n ∧ y.length = ks.length
        · rw [if_pos hl] at o2
          exact ⟨(lens r1 r2 hl).1, (lens r1 r2 hl).2, c2, _, h2, R2, gSel_rep (.cons (rd.ext E2) r1) (hs c2) (hs2 c2) r2 l, o2⟩
        · rw [if_neg hl] at o2
          exact o2.elim
      · intro us ws vs zs H2 s2 I2 r1 r2 ⟨l1, l2, q⟩
        obtain ⟨its, mw, v1, v2, B⟩ := hb.to
        exact run_m (args := ⟨.ref (c1.ρ kk) :: us, ks.zip ws⟩) tk F hr (B s2 (.ref (c1.ρ kk) :: us) ws I2.kIn (by rw [List.length_cons, ← r1.length, l1]) (r2.length.symm.trans l2)) I2 (gSel_vals (a := .ref (c1.ρ kk) :: vs) (b := .ref (c1.ρ kk) :: us) (.cons rfl r1) v1 v2 r2 l) q
    · rw [if_neg hc] at o1
      exact o1.elim
  · exact o1.elim
/-- a new instance lies -/
theorem made {w : Wd} {c : Cf} {h : AH} {H : Hp} (R : Rel w c h H) {cl : Nat} {x dx : Addr} (hx : H x = none) (hd : H dx = none) (ne : dx ≠ x) :
    Rel w (c.add x (.ins (w.T cl) dx [])) (h.new (.ins cl [])) (upd (upd H dx (.own x)) x (.ins (w.T cl) dx [])) ∧ Ext c H (c.add x (.ins (w.T cl) dx [])) (upd (upd H dx (.own x)) x (.ins (w.T cl) dx [])) :=
  R.add hx (fun a v e => by rw [upd_ne (ne_of_none e hx), upd_ne (ne_of_none e hd)]; exact e) upd_same ⟨dx, [], rfl, rfl⟩
theorem r_make {cl : Nat} (tk : Takes X W) (M : Mk X.K (T cl) f) (F : Fn X.prog X.w X.K T X.mg X.base k f fd ps mf) (hr : Rm (k + 1) X.A) (hm : X.mg x = some (.ref (T cl))) (hb : Bd X.K fd ps (n + 1) ks l dv mv) (hs : ∀ c, RepL (Wd.mk X.K T) c dd dv) (hs2 : ∀ c, RepL (Wd.mk X.K T) c md mv)
    (ha : CArgs X es kws pos ks (tA (Wd.mk X.K T) W ma) (tA (Wd.mk X.K T) W mk)) (hg : Gl X x := by rfl) (hdb : (x == ("__debug__" : Str)) = false := by decide) : PE X (.Call (.Name x p) es kws pos) (tM (Wd.mk X.K T) W (eMake cl mf n ks.length l dd md ma mk)) := by
  refine ⟨fun pins s σ H Q I z => wpAny_Call_Name_kw (ld_glob I hg hm ?_ hdb)⟩
  obtain ⟨c, sl, h, R, S, o⟩ := z
  refine ha.run (.ref (T cl)) [] M.kp pins s σ H (fun vs zs H2 => vs.length = n ∧ zs.length = ks.length ∧ ∀ y dy, H2 y = none → H2 dy = none → dy ≠ y →
    spM (Wd.mk X.K T) mf (gSel l (.ref y :: vs) dv mv zs) (upd (upd H2 dy (.own y)) y (.ins (T cl) dy [])) (fun v H3 => v = .non ∧ Q (.ref y) H3) fun cls dd H' => W cls dd σ H') _ I ?_ ?_
  · refine twoA R S o fun c2 h2 H2 x y v u R2 S2 E2 r1 r2 o2 => ?_
    by_cases hl : x.length = n ∧ y.length = ks.length
    · rw [if_pos hl] at o2
      refine ⟨(lens r1 r2 hl).1, (lens r1 r2 hl).2, fun a da ha hd ne => ?_⟩
      obtain ⟨R3, E3⟩ := made (cl := cl) R2 ha hd ne
      have rn : Rep (Wd.mk X.K T) (c2.add a (.ins (T cl) da [])) (.ref h2.n) (.ref a) := by
        simp only [Rep]
        exact ⟨by show V.ref a = V.ref (if h2.n = c2.n then a else _); rw [if_pos R2.n.symm], by show h2.n < c2.n + 1; rw [R2.n]; exact Nat.lt_succ_self _⟩
      refine ⟨_, _, _, R3, gSel_rep (.cons rn (r1.ext E3)) (hs _) (hs2 _) (r2.ext E3) l, ?_⟩
      refine (Out.bind (A := Rep (Wd.mk X.K T)) (Out.shift E3 o2)).mono ?_
      rintro v3 H3 ⟨c4, h4, d4, R4, E4, r4, o4⟩
      cases d4 with
      | non =>
        simp only [Rep] at r4
        exact ⟨r4, o4 c4 _ H3 R4 (.refl R4.sub) (rn.ext E4)⟩
      | _ => exact o4.elim
    · rw [if_neg hl] at o2
      exact o2.elim
  · intro us ws vs zs H2 s2 I2 r1 r2 ⟨l1, l2, q⟩
    have hq := q (s2.heap.objs.size + 1) s2.heap.objs.size (I2.hok.fresh (Nat.le_succ _)) (I2.hok.fresh (Nat.le_refl _)) (Nat.ne_of_lt (Nat.lt_succ_self _))
    have I3 := Inv.made (C := T cl) I2
    obtain ⟨its, mw, v1, v2, B⟩ := hb.to
    refine wpAny_call (L2.make_map (f := f) I2.kIn M.makes M.init (beq_iff_eq.mp M.fn) (codeAny_mono (F.run _ X.stack _ _ ⟨.ref (s2.heap.objs.size + 1) :: us, ks.zip ws⟩ _ _ _ _ (hr.make _ _ _) (I3.env0.make _ _ _) (B _ (.ref (s2.heap.objs.size + 1) :: us) ws I3.kIn (by rw [List.length_cons, ← r1.length, l1]) (r2.length.symm.trans l2)) (gSel_vals (a := .ref (s2.heap.objs.size + 1) :: vs) (b := .ref (s2.heap.objs.size + 1) :: us) (.cons rfl r1) v1 v2 r2 l) hq) fun z s' hz => ?_))
    cases z with
    | error e => exact passAt tk σ pins _ _ e s' I3 hz
    | ok fl =>
      cases fl with
      | ret u =>
        obtain ⟨v, H', I4, rv, ev, q3⟩ := I3.after hz
        subst ev
        exact ⟨rv, .ref (s2.heap.objs.size + 1), H', I4, rfl, q3⟩
      | next => exact False.elim hz
      | brk => exact False.elim hz
      | cont => exact False.elim hz
end
end MP
set_option Elab.async false
set_option linter.all false
set_option maxRecDepth 100000
set_option maxHeartbeats 4000000
/-! mirrors: tests, statements, loops, comprehensions -/
namespace MP
open PySem PySem.Spec L2
open PyProof.Rows hiding St

/-! ### tests -/
def truth (h : AH) : D → Option Bool
  | .non => some false
  | .bl b => some b
  | .int i => some (i != 0)
  | .str x => if x.length ≤ 100000 then some ((x.length : Int) != 0) else none
  | .tup xs => some (!xs.isEmpty)
  | .lst xs => some (!xs.isEmpty)
  | .fz xs => some (!xs.isEmpty)
  | .ref k => match h.g k with
    | some (.lst xs) => some (!xs.isEmpty)
    | some (.dct kvs) => some (!kvs.isEmpty)
    | _ => none
  | .con _ => none
def tst (m : ME) : MT := fun s h => (m s h).bind fun d h1 => match truth h1 d with
  | some b => .ok b h1
  | none => .st
/-- a comparison's test: a truth -/
def tstB (m : ME) : MT := fun s h => (m s h).bind fun d h1 => match d with
  | .bl b => .ok b h1
  | _ => .st
def tAnd (a b : MT) : MT := fun s h => (a s h).bind fun x h1 => if x = true then b s h1 else .ok false h1
def tOr (a b : MT) : MT := fun s h => (a s h).bind fun x h1 => if x = true then .ok true h1 else b s h1
def tNot (a : MT) : MT := fun s h => (a s h).bind fun x h1 => .ok (!x) h1
/-- x and y, as a value -/
def eAnd (a b : ME) : ME := fun s h => (a s h).bind fun x h1 => match truth h1 x with
  | some k => if k = true then b s h1 else .ok x h1
  | none => .st
def eOr (a b : ME) : ME := fun s h => (a s h).bind fun x h1 => match truth h1 x with
  | some k => if k = true then .ok x h1 else b s h1
  | none => .st
def eNot (a : ME) : ME := fun s h => (a s h).bind fun x h1 => match truth h1 x with
  | some b => .ok (.bl (!b)) h1
  | none => .st
/-- a < b < c -/
def eChain (g g' : AH → D → D → Option D) (a b e : ME) : ME := fun s h => (a s h).bind fun x h1 => (b s h1).bind fun y h2 => match g h2 x y with
  | some (.bl k) => if k = true then (e s h2).bind fun z h3 => optR (g' h3 y z) h3 else .ok (.bl false) h2
  | _ => .st
theorem isE {α : Type} {xs : List D} {vs : List V} {w : Wd} {c : Cf} (r : RepL w c xs vs) : (!xs.isEmpty) = !vs.isEmpty := by
  have := r.len
  cases xs <;> cases vs <;> simp_all
theorem kvE {κ : Type} {w : Wd} {c : Cf} {fs : List (κ × D)} {vs : List (κ × V)} (r : RepKV w c fs vs) : (!fs.isEmpty) = !vs.isEmpty := by
  cases fs with
  | nil => obtain rfl : vs = [] := r; rfl
  | cons f fs => obtain ⟨x, xs, rfl, _⟩ := r; rfl
theorem truth_ok {w : Wd} {c : Cf} {h : AH} {H : Hp} (R : Rel w c h H) {d : D} {v : V} {b : Bool} (r : Rep w c d v) (q : truth h d = some b) : TruV w.K v H b := by
  cases d with
  | non => simp only [Rep] at r; subst r; simp only [truth, Option.some.injEq] at q; exact q.symm
  | bl k => simp only [Rep] at r; subst r; simp only [truth, Option.some.injEq] at q; exact q.symm
  | int i => simp only [Rep] at r; subst r; simp only [truth, Option.some.injEq] at q; exact q.symm
  | str x =>
    simp only [Rep] at r; subst r
    simp only [truth] at q
    split at q
    · rename_i hl
      simp only [Option.some.injEq] at q
      exact ⟨size5 hl, q.symm⟩
    · cases q
  | tup xs =>
    obtain ⟨a, vs, rfl, t, rl⟩ := seqT_ok R r rfl
    simp only [truth, Option.some.injEq] at q
    exact .inr (.inl ⟨vs, t, by rw [← q, isE (α := Unit) rl]⟩)
  | lst xs =>
    obtain ⟨a, vs, rfl, t, rl⟩ := seqL_ok R r rfl
    simp only [truth, Option.some.injEq] at q
    exact .inl ⟨vs, t, by rw [← q, isE (α := Unit) rl]⟩
  | fz xs =>
    obtain ⟨a, vs, rfl, t, rl⟩ := seqL_ok R r rfl
    simp only [truth, Option.some.injEq] at q
    exact .inl ⟨vs, t, by rw [← q, isE (α := Unit) rl]⟩
  | ref k =>
    simp only [truth] at q
    split at q
    · rename_i xs e
      obtain ⟨a, vs, rfl, t, rl⟩ := seqL_ok R r (xs := xs) (by simp [seqL, e])
      simp only [Option.some.injEq] at q
      exact .inl ⟨vs, t, by rw [← q, isE (α := Unit) rl]⟩
    · rename_i kvs e
      simp only [Rep] at r
      obtain ⟨rfl, hk⟩ := r
      obtain ⟨u, e1, vs, rfl, rf⟩ := R.at_ _ _ e
      simp only [Option.some.injEq] at q
      exact .inr (.inr ⟨vs, R.sub _ _ e1, by rw [← q, kvE rf]⟩)
    · cases q
  | con a => simp [truth] at q
section
variable {X : Cx} {T : Nat → Addr} {W : WX} {a b e : Expr} {ma mb : ME} {ta tb : MT} {pos : Pos} {rest : List Expr}
theorem t_truth (ha : PE X a (tM (Wd.mk X.K T) W ma)) (he : ∀ whole, isTrue a X.env whole = (do let v ← whole; standAt a.pos; holding [v] (truthy v)) := by intro _; rfl) : PT X a (tT (Wd.mk X.K T) W (tst ma)) :=
  PTi (pt_truth ha he) fun σ H Q ⟨c, s, h, R, S, o⟩ => ⟨c, s, h, R, S, (Out.bind (A := Rep (Wd.mk X.K T)) o).mono (by
    rintro v H1 ⟨c1, h1, d, R1, E1, r1, o1⟩
    split at o1
    · rename_i b q
      exact ⟨b, truth_ok R1 r1 q, o1 c1 b H1 R1 (.refl R1.sub) rfl⟩
    · exact o1.elim)⟩
theorem t_cmp {op : CmpOp} {r : R2} {g : AH → D → D → Option D} (ho : OpR X (compareOp op) r) (hg : Op2 (Wd.mk X.K T) r g) (ha : PE X a (tM (Wd.mk X.K T) W ma)) (hb : PE X b (tM (Wd.mk X.K T) W mb)) (hm : behindInMarks op b = false) : PT X (.Compare a [op] [b] pos) (tT (Wd.mk X.K T) W (tstB (eBin g ma mb))) :=
  PTi (pt_cmpR ho ha hb hm) fun σ H Q z => by
    obtain ⟨c, s, h, R, S, o⟩ := z
    have o : Out (Wd.mk X.K T) c H (fun cls dd H' => W cls dd σ H') (fun _ a b => a = b) Q ((ma s h).bind fun x h1 => (mb s h1).bind fun y h2 => (optR (g h2 x y) h2).bind fun d h1 => match d with | .bl b => .ok b h1 | _ => .st) := by
      unfold tstB eBin at o
      cases q1 : ma s h with
      | ok x h1 =>
        rw [q1] at o
        simp only [Res.bind] at o ⊢
        cases q2 : mb s h1 with
        | ok y h2 => rw [q2] at o; exact o
        | ex e' h' => rw [q2] at o; exact o
        | st => rw [q2] at o; exact o
      | ex e' h' => rw [q1] at o; exact o
      | st => rw [q1] at o; exact o
    refine ⟨c, s, h, R, S, (Out.bind (A := Rep (Wd.mk X.K T)) o).mono ?_⟩
    rintro v H1 ⟨c1, h1, x, R1, E1, r1, o1⟩
    refine ⟨c1, s, h1, R1, S.ext E1, (Out.bind (A := Rep (Wd.mk X.K T)) o1).mono ?_⟩
    rintro u H2 ⟨c2, h2, y, R2, E2, r2, o2⟩
    cases q : g h2 x y with
    | none => rw [q] at o2; exact o2.elim
    | some d =>
      rw [q] at o2
      refine hg c2 h2 H2 x y d v u _ R2 (r1.ext E2) r2 q fun c3 v3 H3 R3 E3 r3 => ?_
      cases d with
      | bl k =>
        simp only [Rep] at r3
        exact ⟨k, r3, o2 c3 k H3 R3 E3 rfl⟩
      | _ => exact o2.elim
theorem w_and1 (ha : PT X a (tT (Wd.mk X.K T) W ta)) : PW X (.BoolOp .And [a] pos) (tT (Wd.mk X.K T) W ta) := pw_and1 ha
theorem w_or1 (ha : PT X a (tT (Wd.mk X.K T) W ta)) : PW X (.BoolOp .Or [a] pos) (tT (Wd.mk X.K T) W ta) := pw_or1 ha
theorem w_and (ha : PT X a (tT (Wd.mk X.K T) W ta)) (hb : PW X (.BoolOp .And (b :: rest) pos) (tT (Wd.mk X.K T) W tb)) : PW X (.BoolOp .And (a :: b :: rest) pos) (tT (Wd.mk X.K T) W (tAnd ta tb)) :=
  PWi (pw_and ha hb) fun σ H Q z => by
    obtain ⟨c, s, h, R, S, o⟩ := z
    refine ⟨c, s, h, R, S, (Out.bind (A := fun _ a b => a = b) o).mono ?_⟩
    rintro k H1 ⟨c1, h1, k', R1, E1, rfl, o1⟩
    cases k' with
    | true => exact ⟨c1, s, h1, R1, S.ext E1, o1⟩
    | false => exact o1 c1 false H1 R1 (.refl R1.sub) rfl
theorem w_or (ha : PT X a (tT (Wd.mk X.K T) W ta)) (hb : PW X (.BoolOp .Or (b :: rest) pos) (tT (Wd.mk X.K T) W tb)) : PW X (.BoolOp .Or (a :: b :: rest) pos) (tT (Wd.mk X.K T) W (tOr ta tb)) :=
  PWi (pw_or ha hb) fun σ H Q z => by
    obtain ⟨c, s, h, R, S, o⟩ := z
    refine ⟨c, s, h, R, S, (Out.bind (A := fun _ a b => a = b) o).mono ?_⟩
    rintro k H1 ⟨c1, h1, k', R1, E1, rfl, o1⟩
    cases k' with
    | true => exact o1 c1 true H1 R1 (.refl R1.sub) rfl
    | false => exact ⟨c1, s, h1, R1, S.ext E1, o1⟩
theorem t_pw {tm : MT} (h : PW X e (tT (Wd.mk X.K T) W tm)) : PT X e (tT (Wd.mk X.K T) W tm) := h.pt
theorem t_not (ha : PT X a (tT (Wd.mk X.K T) W ta)) : PT X (.UnaryOp .Not a pos) (tT (Wd.mk X.K T) W (tNot ta)) :=
  PTi (pt_not ha) fun σ H Q z => by
    obtain ⟨c, s, h, R, S, o⟩ := z
    refine ⟨c, s, h, R, S, (Out.bind (A := fun _ a b => a = b) o).mono ?_⟩
    rintro k H1 ⟨c1, h1, k', R1, E1, rfl, o1⟩
    exact o1 c1 (!k') H1 R1 (.refl R1.sub) rfl
theorem r_one {op} (ha : PE X a (tM (Wd.mk X.K T) W ma)) : PE X (.BoolOp op [a] pos) (tM (Wd.mk X.K T) W ma) := pe_one ha
theorem r_and (ha : PE X a (tM (Wd.mk X.K T) W ma)) (hb : PE X (.BoolOp .And (b :: rest) pos) (tM (Wd.mk X.K T) W mb)) : PE X (.BoolOp .And (a :: b :: rest) pos) (tM (Wd.mk X.K T) W (eAnd ma mb)) :=
  PEi (pe_andT ha hb) fun σ H Q z => by
    obtain ⟨c, s, h, R, S, o⟩ := z
    refine ⟨c, s, h, R, S, (Out.bind (A := Rep (Wd.mk X.K T)) o).mono ?_⟩
    rintro v H1 ⟨c1, h1, d, R1, E1, r1, o1⟩
    split at o1
    · rename_i k q
      refine ⟨k, truth_ok R1 r1 q, ?_⟩
      cases k with
      | true => exact ⟨c1, s, h1, R1, S.ext E1, o1⟩
      | false => exact o1 c1 v H1 R1 (.refl R1.sub) r1
    · exact o1.elim
theorem r_or (ha : PE X a (tM (Wd.mk X.K T) W ma)) (hb : PE X (.BoolOp .Or (b :: rest) pos) (tM (Wd.mk X.K T) W mb)) : PE X (.BoolOp .Or (a :: b :: rest) pos) (tM (Wd.mk X.K T) W (eOr ma mb)) :=
  PEi (pe_orT ha hb) fun σ H Q z => by
    obtain ⟨c, s, h, R, S, o⟩ := z
    refine ⟨c, s, h, R, S, (Out.bind (A := Rep (Wd.mk X.K T)) o).mono ?_⟩
    rintro v H1 ⟨c1, h1, d, R1, E1, r1, o1⟩
    split at o1
    · rename_i k q
      refine ⟨k, truth_ok R1 r1 q, ?_⟩
      cases k with
      | true => exact o1 c1 v H1 R1 (.refl R1.sub) r1
      | false => exact ⟨c1, s, h1, R1, S.ext E1, o1⟩
    · exact o1.elim
theorem r_not (ha : PE X a (tM (Wd.mk X.K T) W ma)) : PE X (.UnaryOp .Not a pos) (tM (Wd.mk X.K T) W (eNot ma)) :=
  PEi (pe_notT ha) fun σ H Q z => one z fun c2 s h2 H2 x v R2 S2 r1 o => by
    split at o
    · rename_i b q
      exact ⟨b, truth_ok R2 r1 q, o c2 _ H2 R2 (.refl R2.sub) (by simp [Rep])⟩
    · exact o.elim
theorem chain_aux {c3 : Expr} {mc : ME} {r r' : R2} {g g' : AH → D → D → Option D} (hg : Op2 (Wd.mk X.K T) r g) (hg' : Op2 (Wd.mk X.K T) r' g') {σ : L2.St} {H : Hp} {Q : VK} (z : tM (Wd.mk X.K T) W (eChain g g' ma mb mc) σ H Q) :
    tChain r r' (tM (Wd.mk X.K T) W ma) (tM (Wd.mk X.K T) W mb) (tM (Wd.mk X.K T) W mc) σ H Q :=
  two (f := fun s x y h2 => match g h2 x y with | some (.bl k) => if k = true then (mc s h2).bind fun z h3 => optR (g' h3 y z) h3 else .ok (.bl false) h2 | _ => .st) z fun c2 s h2 H2 x y v u R2 S2 r1 r2 o => by
    split at o
    · rename_i k q
      refine hg c2 h2 H2 x y _ v u _ R2 r1 r2 q fun c3 v3 H3 R3 E3 r3 => ?_
      simp only [Rep] at r3
      refine ⟨k, r3, ?_⟩
      cases k with
      | true =>
        rw [if_pos rfl] at o ⊢
        refine ⟨c3, s, h2, R3, S2.ext E3, (Out.bind (A := Rep (Wd.mk X.K T)) (Out.shift E3 o)).mono ?_⟩
        rintro v4 H4 ⟨c4, h4, d4, R4, E4, r4, o4⟩
        obtain ⟨d, e, G⟩ := optOut o4
        exact hg' c4 h4 H4 y d4 d u v4 Q R4 ((r2.ext E3).ext E4) r4 e G
      | false =>
        rw [if_neg Bool.false_ne_true] at o ⊢
        exact o c3 _ H3 R3 E3 (by simp [Rep])
    · exact o.elim
theorem r_chain {c3 : Expr} {mc : ME} {op op' : CmpOp} {r r' : R2} {g g' : AH → D → D → Option D} (ho : OpR X (compareOp op) r) (hg : Op2 (Wd.mk X.K T) r g) (ho' : OpR X (compareOp op') r') (hg' : Op2 (Wd.mk X.K T) r' g') (ha : PE X a (tM (Wd.mk X.K T) W ma)) (hb : PE X b (tM (Wd.mk X.K T) W mb)) (hc : PE X c3 (tM (Wd.mk X.K T) W mc))
    (hm : lastMarks [op, op'] [b, c3] = false := by with_unfolding_all rfl) : PE X (.Compare a [op, op'] [b, c3] pos) (tM (Wd.mk X.K T) W (eChain g g' ma mb mc)) :=
  PEi (pe_chain ho ho' ha hb hc hm) fun σ H Q z => chain_aux (c3 := c3) hg hg' z
theorem t_chain {c3 : Expr} {mc : ME} {op op' : CmpOp} {r r' : R2} {g g' : AH → D → D → Option D} (ho : OpR X (compareOp op) r) (hg : Op2 (Wd.mk X.K T) r g) (ho' : OpR X (compareOp op') r') (hg' : Op2 (Wd.mk X.K T) r' g') (ha : PE X a (tM (Wd.mk X.K T) W ma)) (hb : PE X b (tM (Wd.mk X.K T) W mb)) (hc : PE X c3 (tM (Wd.mk X.K T) W mc))
    (hm : lastMarks [op, op'] [b, c3] = false := by with_unfolding_all rfl) : PT X (.Compare a [op, op'] [b, c3] pos) (tT (Wd.mk X.K T) W (tstB (eChain g g' ma mb mc))) :=
  PTi (pt_chain ho ho' ha hb hc hm) fun σ H Q z => by
    refine chain_aux (c3 := c3) hg hg' (Q := fun x H' => ∃ k, x = .bl k ∧ Q k H') ?_
    obtain ⟨c, s, h, R, S, o⟩ := z
    refine ⟨c, s, h, R, S, (Out.bind (A := Rep (Wd.mk X.K T)) o).mono ?_⟩
    rintro v H1 ⟨c1, h1, d, R1, E1, r1, o1⟩
    cases d with
    | bl k =>
      simp only [Rep] at r1
      exact ⟨k, r1, o1 c1 k H1 R1 (.refl R1.sub) rfl⟩
    | _ => exact o1.elim
end

/-! ### statements -/
def Res.bindS {α : Type} (r : Res α) (s : Sl) (f : α → AH → RS) : RS :=
  match r with
  | .ok a h => f a h
  | .ex e h => .ex e s h
  | .st => .st
abbrev MG := D → Sl → AH → Option (Sl × AH)
abbrev MGs := List D → Sl → AH → Option (Sl × AH)
def sNil : MS := fun s h => .nx s h
def sSeq (a b : MS) : MS := fun s h => match a s h with
  | .nx s' h' => b s' h'
  | r => r
def sExp (e : ME) : MS := fun s h => (e s h).bindS s fun _ h1 => .nx s h1
def sRet (e : ME) : MS := fun s h => (e s h).bindS s fun d h1 => .rt d h1
def sRetN : MS := fun s h => .rt .non h
def sBrk : MS := fun s h => .bk s h
def sCnt : MS := fun s h => .ct s h
def sIf (t : MT) (a b : MS) : MS := fun s h => (t s h).bindS s fun k h1 => if k = true then a s h1 else b s h1
def sDead : MS := fun _ _ => .st
def nxO : Option (Sl × AH) → RS
  | some (s, h) => .nx s h
  | none => .st
def sAsg (e : ME) (g : MG) : MS := fun s h => (e s h).bindS s fun d h1 => nxO (g d s h1)
def gNm (i : Nat) : MG := fun d s h => some (s.set i (some d), h)
def sSet (i : Nat) (e : ME) : MS := fun s h => (e s h).bindS s fun d h1 => .nx (s.set i (some d)) h1
def sPar (i j : Nat) (a b : ME) : MS := fun s h => (a s h).bindS s fun x h1 => (b s h1).bindS s fun y h2 => .nx ((s.set i (some x)).set j (some y)) h2
def sPar3 (i j l : Nat) (a b c : ME) : MS := fun s h => (a s h).bindS s fun x h1 => (b s h1).bindS s fun y h2 => (c s h2).bindS s fun z h3 => .nx (((s.set i (some x)).set j (some y)).set l (some z)) h3
def putFD (f : Str) (v : D) : List (Str × D) → List (Str × D)
  | [] => [(f, v)]
  | (g, x) :: r => if g = f then (g, v) :: r else (g, x) :: putFD f v r
/-- o.f = .. -/
def setFld (cs : List Nat) (f : Str) (x y : D) (h : AH) : Option AH := match insOf h x with
  | some (k, c, fs) => if cs.contains c = true ∧ fs.length < 1000 then some (h.put k (.ins c (putFD f y fs))) else none
  | none => none
def sFld (cs : List Nat) (f : Str) (o e : ME) : MS := fun s h => (e s h).bindS s fun y h1 => (o s h1).bindS s fun x h2 => match setFld cs f x y h2 with
  | some h3 => .nx s h3
  | none => .st
def gFld (cs : List Nat) (f : Str) (o : ME) : MG := fun y s h => match o s h with
  | .ok x h2 => match setFld cs f x y h2 with
    | some h3 => some (s, h3)
    | none => none
  | _ => none
/-- o.f op= e -/
def sFldAug (cs : List Nat) (f : Str) (g : AH → D → D → Option D) (o e : ME) : MS := fun s h => (o s h).bindS s fun x h1 => match insOf h1 x with
  | some (_, c, fs) => match fs.lookup f with
    | some d => if cs.contains c = true then (e s h1).bindS s fun y h2 => match g h2 d y with
      | some z => match insOf h2 x with
        | some (_, c', _) => if c' = c then match setFld cs f x z h2 with
          | some h3 => .nx s h3
          | none => .st
          else .st
        | none => .st
      | none => .st
      else .st
    | none => .st
  | none => .st
def gsNil : MGs := fun ds s h => match ds with
  | [] => some (s, h)
  | _ => none
def gsCons (g : MG) (gs : MGs) : MGs := fun ds s h => match ds with
  | d :: r => match g d s h with
    | some (s1, h1) => gs r s1 h1
    | none => none
  | [] => none
/-- a, b, .. = a tuple -/
def gTp (n : Nat) (gs : MGs) : MG := fun d s h => match seqT d with
  | some xs => if xs.length = n then gs xs s h else none
  | none => none
/-- a, b, .. = a list -/
def gLs (n : Nat) (gs : MGs) : MG := fun d s h => match seqL h d with
  | some xs => if xs.length = n then gs xs s h else none
  | none => none
section
variable {w : Wd} {c c1 : Cf} {H H1 : Hp} {W : WX} {α β : Type} {A : Cf → α → β → Prop}
theorem OutS.bind {D : Ends} {s : Sl} {σ : L2.St} (S : RelS w c s σ) {f : α → AH → RS} : ∀ {r : Res α}, OutS w c H W D (r.bindS s f) →
    Out w c H (fun cls dd H' => W cls dd σ H') A (fun b H1 => ∃ c1 h1 a, Rel w c1 h1 H1 ∧ Ext c H c1 H1 ∧ A c1 a b ∧ OutS w c1 H1 W D (f a h1)) r
  | .ok a h', o => fun c' b H' R e q => ⟨c', h', a, R, e, q, OutS.shift e o⟩
  | .ex _ _, o => fun c' cls dd H' R e x => o c' cls dd σ H' R e (S.ext e) x
  | .st, o => o
end
/-- what is to hold behind a target's store -/
def OutG (w : Wd) (c : Cf) (H : Hp) (Q : L2.St → Hp → Prop) : Option (Sl × AH) → Prop
  | some (s', h') => ∀ c' σ' H', Rel w c' h' H' → Ext c H c' H' → RelS w c' s' σ' → Q σ' H'
  | none => False
theorem OutG.shift {w : Wd} {c c1 : Cf} {H H1 : Hp} (x : Ext c H c1 H1) {Q : L2.St → Hp → Prop} : ∀ {r : Option (Sl × AH)}, OutG w c H Q r → OutG w c1 H1 Q r
  | some _, o => fun c' b H' R e a => o c' b H' R (x.trans e) a
  | none, o => o
/-- a target's reading -/
def tG (w : Wd) (g : MG) : TG := fun v σ H Q => ∃ c s h d, Rel w c h H ∧ RelS w c s σ ∧ Rep w c d v ∧ OutG w c H Q (g d s h)
def tGs (w : Wd) (g : MGs) : TGs := fun vs σ H Q => ∃ c s h ds, Rel w c h H ∧ RelS w c s σ ∧ RepL w c ds vs ∧ OutG w c H Q (g ds s h)
theorem OutS.ofG {w : Wd} {c : Cf} {H : Hp} {W : WX} {D : Ends} : ∀ {r : Option (Sl × AH)}, OutS w c H W D (nxO r) → OutG w c H D.nx r
  | some _, o => o
  | none, o => o
theorem putF_rep {w : Wd} {c : Cf} {f : Str} {d : D} {v : V} (r : Rep w c d v) : ∀ {fs : List (Str × D)} {vs : List (Str × V)}, RepKV w c fs vs → RepKV w c (putFD f d fs) (putF f v vs)
  | [], vs, q => by
    obtain rfl : vs = [] := q
    exact ⟨v, [], rfl, r, rfl⟩
  | (g, x) :: fs, vs, q => by
    obtain ⟨y, ys, rfl, r1, r2⟩ := q
    show RepKV w c (if g = f then (g, d) :: fs else (g, x) :: putFD f d fs) (if g = f then (g, v) :: ys else (g, y) :: putF f v ys)
    by_cases e : g = f
    · rw [if_pos e, if_pos e]
      exact ⟨v, ys, rfl, r, r2⟩
    · rw [if_neg e, if_neg e]
      exact ⟨y, _, rfl, r1, putF_rep r r2⟩
theorem RepKV.len {κ : Type} {w : Wd} {c : Cf} : ∀ {fs : List (κ × D)} {vs : List (κ × V)}, RepKV w c fs vs → fs.length = vs.length
  | [], vs, r => by
    obtain rfl : vs = [] := r
    rfl
  | f :: fs, vs, r => by
    obtain ⟨y, ys, rfl, _, r⟩ := r
    simp [RepKV.len r]
/-- a field is stored -/
theorem setFld_ok {w : Wd} {c : Cf} {h h3 : AH} {H : Hp} (R : Rel w c h H) {cs : List Nat} {f : Str} {x y : D} {v u : V} (rx : Rep w c x v) (ry : Rep w c y u) (e : setFld cs f x y h = some h3) :
    ∃ k cl fs a dx vs, insOf h x = some (k, cl, fs) ∧ cs.contains cl = true ∧ v = .ref a ∧ H a = some (.ins (w.T cl) dx vs) ∧ vs.length < 1000 ∧ ∃ c', Rel w c' h3 (upd H a (.ins (w.T cl) dx (putF f u vs))) ∧ Ext c H c' (upd H a (.ins (w.T cl) dx (putF f u vs))) := by
  unfold setFld at e
  split at e
  · rename_i k cl fs ei
    split at e
    · rename_i hl
      cases e
      obtain ⟨rfl, q, rfl, dx, vs, e1, e2, rf⟩ := insAt R rx ei
      obtain ⟨R', E'⟩ := R.put q e1 (o' := .ins cl (putFD f y fs)) (u' := .ins (w.T cl) dx (putF f u vs)) ⟨dx, _, rfl, putF_rep ry rf⟩
      exact ⟨k, cl, fs, _, dx, vs, ei, hl.1, rfl, e2, by rw [← rf.len]; exact hl.2, _, R', E'⟩
    · cases e
  · cases e
/-- which classes let which fields be read and stored -/
def FldOk (K : PySem.W.Frag) (T : Nat → Addr) (cs : List Nat) (f : Str) : Prop := ∀ k, cs.contains k = true → Cls K (T k) ∧ NoAttr K (T k) f
def eFld (cs : List Nat) (f : Str) (o : ME) : ME := fun s h => (o s h).bind fun x h1 => match insOf h1 x with
  | some (_, c, fs) => if cs.contains c = true then optR (fs.lookup f) h1 else .st
  | none => .st
section
variable {X : Cx} {T : Nat → Addr} {W : WX} {a b e o : Expr} {ma mb mo : ME} {ta tb : MT} {sa sb : MS} {pos : Pos} {st : Stmt} {sts : List Stmt}
theorem s_nil : PSs X [] (tS (Wd.mk X.K T) W sNil) := PSsi pss_nil fun D σ H ⟨c, s, h, R, S, o⟩ => o c σ H R (.refl R.sub) S
theorem s_one (h : PS X st (tS (Wd.mk X.K T) W sa)) : PSs X [st] (tS (Wd.mk X.K T) W sa) := pss_one h
theorem s_cons (h : PS X st (tS (Wd.mk X.K T) W sa)) (hr : PSs X sts (tS (Wd.mk X.K T) W sb)) : PSs X (st :: sts) (tS (Wd.mk X.K T) W (sSeq sa sb)) :=
  PSsi (pss_cons h hr) fun D σ H ⟨c, s, h, R, S, o⟩ => by
    refine ⟨c, s, h, R, S, ?_⟩
    unfold sSeq at o
    cases q : sa s h with
    | nx s' h' =>
      rw [q] at o
      exact fun c' σ' H' R' E' S' => ⟨c', s', h', R', S', OutS.shift E' o⟩
    | rt d h' => rw [q] at o; exact o
    | bk s' h' => rw [q] at o; exact o
    | ct s' h' => rw [q] at o; exact o
    | ex e s' h' => rw [q] at o; exact o
    | st => rw [q] at o; exact o
/-- what follows a way out is not looked at -/
theorem s_pass : PS X (.Pass pos) (tS (Wd.mk X.K T) W sNil) := PSi ps_pass fun D σ H ⟨c, s, h, R, S, o⟩ => o c σ H R (.refl R.sub) S
theorem s_brk : PS X (.Break pos) (tS (Wd.mk X.K T) W sBrk) := PSi ps_break fun D σ H ⟨c, s, h, R, S, o⟩ => o c σ H R (.refl R.sub) S
theorem s_cnt : PS X (.Continue pos) (tS (Wd.mk X.K T) W sCnt) := PSi ps_continue fun D σ H ⟨c, s, h, R, S, o⟩ => o c σ H R (.refl R.sub) S
theorem s_doc {x j pos'} : PS X (.Expr (.Constant (.str x) j pos) pos') (tS (Wd.mk X.K T) W sNil) := PSi ps_doc fun D σ H ⟨c, s, h, R, S, o⟩ => o c σ H R (.refl R.sub) S
theorem s_dead : PS X st (tS (Wd.mk X.K T) W sDead) := PSi ps_never fun D σ H ⟨c, s, h, R, S, o⟩ => o
theorem s_exp (he : PE X e (tM (Wd.mk X.K T) W ma)) (hs : swapsWith e none pos.line X.env = pure false := by rfl) : PS X (.Expr e pos) (tS (Wd.mk X.K T) W (sExp ma)) :=
  PSi (ps_expr he hs) fun D σ H ⟨c, s, h, R, S, o⟩ => ⟨c, s, h, R, S, (OutS.bind (A := Rep (Wd.mk X.K T)) S o).mono (by
    rintro v H1 ⟨c1, h1, d, R1, E1, r1, o1⟩
    exact o1 c1 σ H1 R1 (.refl R1.sub) (S.ext E1))⟩
theorem s_ret (he : PE X e (tM (Wd.mk X.K T) W ma)) : PS X (.Return (some e) pos) (tS (Wd.mk X.K T) W (sRet ma)) :=
  PSi (ps_ret he) fun D σ H ⟨c, s, h, R, S, o⟩ => ⟨c, s, h, R, S, (OutS.bind (A := Rep (Wd.mk X.K T)) S o).mono (by
    rintro v H1 ⟨c1, h1, d, R1, E1, r1, o1⟩
    exact o1 c1 v H1 R1 (.refl R1.sub) r1)⟩
theorem s_retN : PS X (.Return none pos) (tS (Wd.mk X.K T) W sRetN) := PSi ps_retN fun D σ H ⟨c, s, h, R, S, o⟩ => o c .non H R (.refl R.sub) (by simp [Rep])
theorem s_if {a b : List Stmt} (ht : PT X e (tT (Wd.mk X.K T) W ta)) (ha : PSs X a (tS (Wd.mk X.K T) W sa)) (hb : PSs X b (tS (Wd.mk X.K T) W sb)) : PS X (.If e a b pos) (tS (Wd.mk X.K T) W (sIf ta sa sb)) :=
  PSi (ps_if ht ha hb) fun D σ H ⟨c, s, h, R, S, o⟩ => ⟨c, s, h, R, S, (OutS.bind (A := fun _ a b => a = b) S o).mono (by
    rintro k H1 ⟨c1, h1, k', R1, E1, rfl, o1⟩
    cases k' with
    | true => exact ⟨c1, s, h1, R1, S.ext E1, o1⟩
    | false => exact ⟨c1, s, h1, R1, S.ext E1, o1⟩)⟩
theorem s_set {i : Nat} {x : Str} {pos' : Pos} (hN : X.N.Nodup) (he : PE X e (tM (Wd.mk X.K T) W ma)) (hi : X.N[i]? = some x := by rfl) (hx : Loc X.env.scope x := by first | exact Or.inl rfl | exact Or.inr rfl) (hs : swapsWith e (some (.Name x pos')) pos.line X.env = pure false := by rfl)
    (hf : X.fn x = true ∨ X.env.scope.names.lookup x = some .local := by first | exact .inl rfl | exact .inr rfl | assumption) : PS X (.Assign [.Name x pos'] e pos) (tS (Wd.mk X.K T) W (sSet i ma)) :=
  PSi (ps_set hN hi hx he hs hf) fun D σ H ⟨c, s, h, R, S, o⟩ => ⟨c, s, h, R, S, (OutS.bind (A := Rep (Wd.mk X.K T)) S o).mono (by
    rintro v H1 ⟨c1, h1, d, R1, E1, r1, o1⟩
    exact o1 c1 _ H1 R1 (.refl R1.sub) ((S.ext E1).set r1))⟩
theorem s_asg {tg : Expr} {g : MG} (he : PE X e (tM (Wd.mk X.K T) W ma)) (hg : PG X tg (tG (Wd.mk X.K T) g)) (hs : swapsWithSole [tg] e pos.line X.env = pure false := by rfl) (hw : swappedStores [tg] e X.env = pure none := by rfl)
    (h1 : (assignEach [tg] X.env).map (·.2) = [assign tg X.env] := by rfl) : PS X (.Assign [tg] e pos) (tS (Wd.mk X.K T) W (sAsg ma g)) :=
  PSi (ps_asg he hg hs hw h1) fun D σ H ⟨c, s, h, R, S, o⟩ => ⟨c, s, h, R, S, (OutS.bind (A := Rep (Wd.mk X.K T)) S o).mono (by
    rintro v H1 ⟨c1, h1, d, R1, E1, r1, o1⟩
    exact ⟨c1, s, h1, d, R1, S.ext E1, r1, OutS.ofG o1⟩)⟩
def sAsg2 (e : ME) (g1 g2 : MG) : MS := fun s h => (e s h).bindS s fun d h1 => nxO (match g1 d s h1 with | some (s1, h2) => g2 d s1 h2 | none => none)
def sAsg3 (e : ME) (g1 g2 g3 : MG) : MS := fun s h => (e s h).bindS s fun d h1 => nxO (match g1 d s h1 with | some (s1, h2) => (match g2 d s1 h2 with | some (s2, h3) => g3 d s2 h3 | none => none) | none => none)
theorem s_asg2 {t1 t2 : Expr} {g1 g2 : MG} (he : PE X e (tM (Wd.mk X.K T) W ma)) (h1 : PG X t1 (tG (Wd.mk X.K T) g1)) (h2 : PG X t2 (tG (Wd.mk X.K T) g2)) (hx : (assignEach [t1, t2] X.env).map (·.2) = [assign t1 X.env, assign t2 X.env] := by rfl) (hw : swappedStores [t1, t2] e X.env = pure none := by rfl) :
    PS X (.Assign [t1, t2] e pos) (tS (Wd.mk X.K T) W (sAsg2 ma g1 g2)) :=
  PSi (ps_asg2 he h1 h2 hx hw) fun D σ H ⟨c, s, h, R, S, o⟩ => ⟨c, s, h, R, S, (OutS.bind (A := Rep (Wd.mk X.K T)) S o).mono (by
    rintro v H1 ⟨c1, h1, d, R1, E1, r1, o1⟩
    refine ⟨c1, s, h1, d, R1, S.ext E1, r1, ?_⟩
    have o2 := OutS.ofG o1
    cases q : g1 d s h1 with
    | none => rw [q] at o2; exact o2.elim
    | some p =>
      rw [q] at o2
      exact fun c' σ' H' R' E' S' => ⟨c', p.1, p.2, d, R', S', r1.ext E', OutG.shift E' o2⟩)⟩
theorem s_asg3 {t1 t2 t3 : Expr} {g1 g2 g3 : MG} (he : PE X e (tM (Wd.mk X.K T) W ma)) (h1 : PG X t1 (tG (Wd.mk X.K T) g1)) (h2 : PG X t2 (tG (Wd.mk X.K T) g2)) (h3 : PG X t3 (tG (Wd.mk X.K T) g3))
    (hx : (assignEach [t1, t2, t3] X.env).map (·.2) = [assign t1 X.env, assign t2 X.env, assign t3 X.env] := by rfl) (hw : swappedStores [t1, t2, t3] e X.env = pure none := by rfl) :
    PS X (.Assign [t1, t2, t3] e pos) (tS (Wd.mk X.K T) W (sAsg3 ma g1 g2 g3)) :=
  PSi (ps_asg3 he h1 h2 h3 hx hw) fun D σ H ⟨c, s, h, R, S, o⟩ => ⟨c, s, h, R, S, (OutS.bind (A := Rep (Wd.mk X.K T)) S o).mono (by
    rintro v H1 ⟨c1, h1, d, R1, E1, r1, o1⟩
    refine ⟨c1, s, h1, d, R1, S.ext E1, r1, ?_⟩
    have o2 := OutS.ofG o1
    cases q : g1 d s h1 with
    | none => rw [q] at o2; exact o2.elim
    | some p =>
      rw [q] at o2
      refine fun c' σ' H' R' E' S' => ⟨c', p.1, p.2, d, R', S', r1.ext E', ?_⟩
      dsimp only at o2
      cases q2 : g2 d p.1 p.2 with
      | none => rw [q2] at o2; exact o2.elim
      | some p2 =>
        rw [q2] at o2
        exact fun c3 σ3 H3 R3 E3 S3 => ⟨c3, p2.1, p2.2, d, R3, S3, (r1.ext E').ext E3, OutG.shift (E'.trans E3) o2⟩)⟩
theorem g_nm {i : Nat} {x : Str} (hN : X.N.Nodup) (hi : X.N[i]? = some x := by rfl) (hx : Loc X.env.scope x := by first | exact Or.inl rfl | exact Or.inr rfl) (hf : X.fn x = true ∨ X.env.scope.names.lookup x = some .local := by first | exact .inl rfl | exact .inr rfl | assumption) :
    PG X (.Name x pos) (tG (Wd.mk X.K T) (gNm i)) :=
  ⟨fun pins s σ H v u Q I r z => (pg_name hN hi hx hf).run pins s σ H v u Q I r (by
    obtain ⟨c, s, h, d, R, S, r1, o⟩ := z
    exact o c _ H R (.refl R.sub) (S.set r1))⟩
theorem gs_nil : PGs X [] (tGs (Wd.mk X.K T) gsNil) :=
  ⟨fun pins s σ H v u Q I r z => pgs_nil.run pins s σ H v u Q I r (by
    obtain ⟨c, s, h, ds, R, S, r1, o⟩ := z
    cases ds with
    | nil => exact ⟨by simpa [RepL] using r1, o c σ H R (.refl R.sub) S⟩
    | cons d ds => exact o.elim)⟩
theorem gs_cons {t : Expr} {ts : List Expr} {g : MG} {gs : MGs} (h1 : PG X t (tG (Wd.mk X.K T) g)) (h2 : PGs X ts (tGs (Wd.mk X.K T) gs)) (he : (assignEach (t :: ts) X.env).map (·.2) = assign t X.env :: (assignEach ts X.env).map (·.2) := by rfl) : PGs X (t :: ts) (tGs (Wd.mk X.K T) (gsCons g gs)) :=
  ⟨fun pins s σ H v u Q I r z => (pgs_cons h1 h2 he).run pins s σ H v u Q I r (by
    obtain ⟨c, s, h, ds, R, S, r1, o⟩ := z
    cases ds with
    | nil => exact o.elim
    | cons d ds =>
      simp only [RepL] at r1
      obtain ⟨y, ys, rfl, ra, rb⟩ := r1
      refine ⟨y, ys, rfl, c, s, h, d, R, S, ra, ?_⟩
      simp only [gsCons] at o
      cases q : g d s h with
      | none => rw [q] at o; exact o.elim
      | some p =>
        rw [q] at o
        exact fun c' σ' H' R' E' S' => ⟨c', p.1, p.2, ds, R', S', rb.ext E', OutG.shift E' o⟩)⟩
theorem g_tp {ts : List Expr} {k n : Nat} {gs : MGs} (hc : X.calm = true) (h : PGs X ts (tGs (Wd.mk X.K T) gs)) (hn : (assignEach ts X.env).length = n := by rfl) (hst : (assignEach ts X.env).findIdx? (·.1) = none := by rfl) : PG X (.Tuple ts k pos) (tG (Wd.mk X.K T) (gTp n gs)) :=
  ⟨fun pins s σ H v u Q I r z => (pg_tup hc h hn hst).run pins s σ H v u Q I r (by
    obtain ⟨c, s, h, d, R, S, r1, o⟩ := z
    simp only [gTp] at o
    split at o
    · rename_i xs e
      split at o
      · rename_i hl
        obtain ⟨a, vs, rfl, t, rl⟩ := seqT_ok R r1 e
        exact ⟨a, vs, rfl, t, by rw [← rl.len]; exact hl, c, s, h, xs, R, S, rl, o⟩
      · exact o.elim
    · exact o.elim)⟩
theorem g_ls {ts : List Expr} {k n : Nat} {gs : MGs} (hc : X.calm = true) (h : PGs X ts (tGs (Wd.mk X.K T) gs)) (hn : (assignEach ts X.env).length = n := by rfl) (hst : (assignEach ts X.env).findIdx? (·.1) = none := by rfl) : PG X (.Tuple ts k pos) (tG (Wd.mk X.K T) (gLs n gs)) :=
  ⟨fun pins s σ H v u Q I r z => (pg_lst hc h hn hst).run pins s σ H v u Q I r (by
    obtain ⟨c, s, h, d, R, S, r1, o⟩ := z
    simp only [gLs] at o
    split at o
    · rename_i xs e
      split at o
      · rename_i hl
        obtain ⟨a, vs, rfl, t, rl⟩ := seqL_ok R r1 e
        exact ⟨a, vs, rfl, t, by rw [← rl.len]; exact hl, c, s, h, xs, R, S, rl, o⟩
      · exact o.elim
    · exact o.elim)⟩
theorem s_par {i j : Nat} {x y : Str} {px py pt : Pos} {kt k2 pt2} (hc : X.calm = true) (hN : X.N.Nodup) (ha : PE X a (tM (Wd.mk X.K T) W ma)) (hb : PE X b (tM (Wd.mk X.K T) W mb)) (hi : X.N[i]? = some x := by rfl) (hj : X.N[j]? = some y := by rfl) (hij : i ≠ j := by decide)
    (hx : X.env.scope.names.lookup x = some .local := by rfl) (hy : X.env.scope.names.lookup y = some .local := by rfl)
    (hw : swappedStores [.Tuple [.Name x px, .Name y py] kt pt] (.Tuple [a, b] k2 pt2) X.env = pure (some [x, y]) := by rfl)
    (hs : swapsWithSole [.Tuple [.Name x px, .Name y py] kt pt] (.Tuple [a, b] k2 pt2) pos.line X.env = pure false := by rfl)
    (h1 : starEach [a, b] X.env = (false, eval a X.env) :: starEach [b] X.env := by rfl) (h2 : starEach [b] X.env = (false, eval b X.env) :: starEach [] X.env := by rfl) :
    PS X (.Assign [.Tuple [.Name x px, .Name y py] kt pt] (.Tuple [a, b] k2 pt2) pos) (tS (Wd.mk X.K T) W (sPar i j ma mb)) :=
  PSi (ps_par hc hN hi hj hij hx hy (pa_cons ha (pa_cons hb pa_nil h2) h1) hw hs) fun D σ H ⟨c, s, h, R, S, o⟩ => ⟨c, s, h, R, S, (OutS.bind (A := Rep (Wd.mk X.K T)) S o).mono (by
    rintro v H1 ⟨c1, h1, d, R1, E1, r1, o1⟩
    refine ⟨c1, s, h1, R1, S.ext E1, (OutS.bind (A := Rep (Wd.mk X.K T)) (S.ext E1) o1).mono ?_⟩
    rintro v2 H2 ⟨c2, h2, d2, R2, E2, r2, o2⟩
    exact ⟨v, v2, rfl, o2 c2 _ H2 R2 (.refl R2.sub) ((((S.ext E1).ext E2).set (r1.ext E2)).set r2)⟩)⟩
/-- fields -/
theorem r_fld {f : Str} {cs : List Nat} (ho : FldOk X.K T cs f) (he : PE X o (tM (Wd.mk X.K T) W mo)) (hb : attributeBase o f X.env (eval o X.env) = eval o X.env := by rfl) : PE X (.Attribute o f pos) (tM (Wd.mk X.K T) W (eFld cs f mo)) :=
  PEi (pe_fld he hb) fun σ H Q z => one (f := fun _ x h1 => match insOf h1 x with
    | some (_, c, fs) => if cs.contains c = true then optR (fs.lookup f) h1 else .st
    | none => .st) z fun c2 s h2 H2 x v R2 S2 r1 o => by
    split at o
    · rename_i k cl fs ei
      split at o
      · rename_i hm
        obtain ⟨rfl, q, rfl, dx, vs, e1, e2, rf⟩ := insAt R2 r1 ei
        obtain ⟨d, e, G⟩ := optOut o
        rcases rf.lookup (f := f) with ⟨z, _⟩ | ⟨d', v', z, z2, rr⟩
        · rw [z] at e; cases e
        · rw [z] at e; cases e
          exact ⟨_, T cl, dx, vs, v', rfl, e2, (ho cl hm).1, (ho cl hm).2, z2, G.same R2 rr⟩
      · exact o.elim
    · exact o.elim
theorem s_fld {f : Str} {cs : List Nat} {pos' : Pos} (hf : FldOk X.K T cs f) (ho : PE X o (tM (Wd.mk X.K T) W mo)) (he : PE X e (tM (Wd.mk X.K T) W ma)) (hs : swapsWith e (some (.Attribute o f pos')) pos.line X.env = pure false := by rfl) :
    PS X (.Assign [.Attribute o f pos'] e pos) (tS (Wd.mk X.K T) W (sFld cs f mo ma)) :=
  PSi (ps_fld ho he hs) fun D σ H ⟨c, s, h, R, S, o⟩ => ⟨c, s, h, R, S, (OutS.bind (A := Rep (Wd.mk X.K T)) S o).mono (by
    rintro v H1 ⟨c1, h1, d, R1, E1, r1, o1⟩
    refine ⟨c1, s, h1, R1, S.ext E1, (OutS.bind (A := Rep (Wd.mk X.K T)) (S.ext E1) o1).mono ?_⟩
    rintro v2 H2 ⟨c2, h2, d2, R2, E2, r2, o2⟩
    split at o2
    · rename_i h3 e3
      obtain ⟨k, cl, fs, a, dx, vs, ei, hc, rfl, ea, hl, c3, R3, E3⟩ := setFld_ok R2 r2 (r1.ext E2) e3
      exact ⟨a, T cl, dx, vs, rfl, ea, (hf cl hc).1, (hf cl hc).2, hl, o2 c3 σ _ R3 E3 (((S.ext E1).ext E2).ext E3)⟩
    · exact o2.elim)⟩
theorem g_fld {f : Str} {cs : List Nat} (hf : FldOk X.K T cs f) (ho : PE X o (tM (Wd.mk X.K T) (fun _ _ _ _ => False) mo))
    (ha : ∀ v, assign (.Attribute o f pos) X.env v = (do
      let ov ← holding [v] (eval o X.env)
      standAt pos.atName
      holding [v, ov] (setAttr ov f v)
      release [v, ov] []) := by intro _; rfl) : PG X (.Attribute o f pos) (tG (Wd.mk X.K T) (gFld cs f mo)) := by
  refine ⟨fun pins s σ H v u Q I r z => ?_⟩
  obtain ⟨c, sl, h, d, R, S, r1, o1⟩ := z
  rw [ha]
  have w1 := ho.run pins s σ H (fun x H1 => ∃ c1 h1 y, Rel (Wd.mk X.K T) c1 h1 H1 ∧ Ext c H c1 H1 ∧ Rep (Wd.mk X.K T) c1 y x ∧ OutG (Wd.mk X.K T) c1 H1 Q (match setFld cs f y d h1 with | some h3 => some (sl, h3) | none => none)) I ⟨c, sl, h, R, S, by
    simp only [gFld] at o1
    cases q : mo sl h with
    | ok y h1 => rw [q] at o1; exact fun c' b H' R' E' r' => ⟨c', h1, y, R', E', r', OutG.shift E' o1⟩
    | ex e h' => rw [q] at o1; exact o1.elim
    | st => rw [q] at o1; exact o1.elim⟩
  refine wpAny_bind (wpAny_holding (thn w1 fun ov s1 ⟨x, H1, I1, rx, c1, h1, y, R1, E1, ry, o2⟩ => ?_))
  split at o2
  · rename_i h3 e3
    obtain ⟨k, cl, fs, a, dx, vs, ei, hc, rfl, ea, hl, c3, R3, E3⟩ := setFld_ok R1 ry (r1.ext E1) e3
    obtain rfl : ov = Value.ref a := rx
    refine wpAny_bind (wpAny_standAt (wpAny_bind (wpAny_holding (setattr_ok I1 ea (hf cl hc).1 (hf cl hc).2 hl r fun s3 I3 => ?_))))
    exact wpAny_release ⟨σ, _, I3, o2 c3 σ _ R3 E3 ((S.ext E1).ext E3)⟩
  · exact o2.elim
theorem s_fldAug {f : Str} {cs : List Nat} {op : Operator} {tpos : Pos} {rd : V → V → Hp → VK → Prop} {g : AH → D → D → Option D} (hf : FldOk X.K T cs f) (hop : InOp X op rd) (hg : Op2 (Wd.mk X.K T) rd g) (ho : PE X o (tM (Wd.mk X.K T) W mo)) (he : PE X e (tM (Wd.mk X.K T) W ma)) :
    PS X (.AugAssign (.Attribute o f tpos) op e pos) (tS (Wd.mk X.K T) W (sFldAug cs f g mo ma)) :=
  PSi (ps_fldaug ho he hop) fun D σ H ⟨c, s, h, R, S, o⟩ => ⟨c, s, h, R, S, (OutS.bind (A := Rep (Wd.mk X.K T)) S o).mono (by
    rintro v H1 ⟨c1, h1, d, R1, E1, r1, o1⟩
    split at o1
    · rename_i k cl fs ei
      split at o1
      · rename_i dd el
        split at o1
        · rename_i hc
          obtain ⟨rfl, q, rfl, dx, vs, e1, e2, rf⟩ := insAt R1 r1 ei
          rcases rf.lookup (f := f) with ⟨z, _⟩ | ⟨d', v', z, z2, rr⟩
          · rw [z] at el; cases el
          · rw [z] at el; cases el
            refine ⟨_, T cl, dx, vs, v', rfl, e2, (hf cl hc).1, (hf cl hc).2, z2, c1, s, h1, R1, S.ext E1, (OutS.bind (A := Rep (Wd.mk X.K T)) (S.ext E1) o1).mono ?_⟩
            rintro u H2 ⟨c2, h2, y, R2, E2, r2, o2⟩
            split at o2
            · rename_i zz ez
              refine hg c2 h2 H2 _ y zz v' u _ R2 (rr.ext E2) r2 ez fun c3 w3 H3 R3 E3 r3 => ?_
              split at o2
              · rename_i k3 cl3 fs3 ei3
                split at o2
                · rename_i hcl
                  subst hcl
                  split at o2
                  · rename_i h3 e3
                    obtain ⟨k3, cl3, fs3, a3, dx3, vs3, ei4, hc3, ea3, ha3, hl3, c4, R4, E4⟩ := setFld_ok R3 ((r1.ext E2).ext E3) r3 e3
                    rw [ei3] at ei4
                    cases ei4
                    cases ea3
                    exact ⟨dx3, vs3, ha3, hl3, o2 c4 σ _ R4 (E3.trans E4) ((((S.ext E1).ext E2).ext E3).ext E4)⟩
                  · exact o2.elim
                · exact o2.elim
              · exact o2.elim
            · exact o2.elim
        · exact o1.elim
      · exact o1.elim
    · exact o1.elim)⟩
end
end MP
set_option Elab.async false
set_option linter.all false
set_option maxRecDepth 100000
set_option maxHeartbeats 4000000
/-! mirrors: what is walked, for, while, comprehensions -/
namespace MP
open PySem PySem.Spec L2
open PyProof.Rows hiding St

/-- what is walked: its items, and whether it is still as it was -/
structure Walk where
  xs : List D
  ok : AH → Bool
abbrev MI := Sl → AH → Res Walk
def ItOk (w : Wd) (c0 : Cf) (H0 : Hp) (J : It) (k : Walk) : Prop := ∀ c h H i, Rel w c h H → Ext c0 H0 c H → k.ok h = true →
  (i = k.xs.length → J.stop i H) ∧ ∀ d, k.xs[i]? = some d → J.go i H ∧ ∀ x H', J.yld i H x H' → ∃ c', Rel w c' h H' ∧ Ext c H c' H' ∧ Rep w c' d x
def OutW (w : Wd) (c : Cf) (H : Hp) (E : XK) (R : It → Hp → Prop) : Res Walk → Prop
  | .ok k h' => ∀ c' J H', Rel w c' h' H' → Ext c H c' H' → ItOk w c' H' J k → R J H'
  | .ex e h' => ∀ c' cls dd H', Rel w c' h' H' → Ext c H c' H' → RepX w c' e cls dd → E cls dd H'
  | .st => False
def tI (w : Wd) (W : WX) (m : MI) : TI := fun σ H R => ∃ c s h, Rel w c h H ∧ RelS w c s σ ∧ OutW w c H (fun cls dd H' => W cls dd σ H') R (m s h)
theorem OutW.shift {w : Wd} {c c1 : Cf} {H H1 : Hp} {E : XK} {R : It → Hp → Prop} (x : Ext c H c1 H1) : ∀ {r : Res Walk}, OutW w c H E R r → OutW w c1 H1 E R r
  | .ok _ _, o => fun c' b H' R e a => o c' b H' R (x.trans e) a
  | .ex _ _, o => fun c' cls dd H' R e a => o c' cls dd H' R (x.trans e) a
  | .st, o => o
theorem OutW.bind {w : Wd} {c : Cf} {H : Hp} {E : XK} {R : It → Hp → Prop} {α β : Type} {A : Cf → α → β → Prop} {f : α → AH → Res Walk} : ∀ {r : Res α}, OutW w c H E R (r.bind f) →
    Out w c H E A (fun b H1 => ∃ c1 h1 a, Rel w c1 h1 H1 ∧ Ext c H c1 H1 ∧ A c1 a b ∧ OutW w c1 H1 E R (f a h1)) r
  | .ok a h', o => fun c' b H' R e q => ⟨c', h', a, R, e, q, OutW.shift e o⟩
  | .ex _ _, o => o
  | .st, o => o
theorem PIi {X : Cx} {tg e : Expr} {t t' : TI} (h : PI X tg e t) (q : ∀ σ H R, t' σ H R → t σ H R) : PI X tg e t' := ⟨fun pins s σ H R I z => h.run pins s σ H R I (q σ H R z)⟩
/-- is the list still as it was -/
def lstOk (d : D) (xs : List D) : AH → Bool := match d with
  | .ref k => fun h => match h.g k with
    | some (.lst ys) => D.eqbL ys xs
    | _ => false
  | _ => fun _ => true
def iLst (e : ME) : MI := fun s h => (e s h).bind fun d h1 => match seqL h1 d with
  | some xs => .ok ⟨xs, lstOk d xs⟩ h1
  | none => .st
def iTup (e : ME) : MI := fun s h => (e s h).bind fun d h1 => match seqT d with
  | some xs => .ok ⟨xs, fun _ => true⟩ h1
  | none => .st
def iSeq (e : ME) : MI := fun s h => (e s h).bind fun d h1 => match seqT d with
  | some xs => .ok ⟨xs, fun _ => true⟩ h1
  | none => match seqL h1 d with
    | some xs => .ok ⟨xs, lstOk d xs⟩ h1
    | none => .st
def rng (lo hi : Int) : List D := (List.range (hi - lo).toNat).map fun k => .int (lo + (k : Nat))
def iRng1 (a : ME) : MI := fun s h => (a s h).bind fun x h1 => match x with
  | .int j => if -(2 ^ 62) ≤ j ∧ j < 2 ^ 62 then .ok ⟨rng 0 j, fun _ => true⟩ h1 else .st
  | _ => .st
def iRng2 (a b : ME) : MI := fun s h => (a s h).bind fun x h1 => (b s h1).bind fun y h2 => match x, y with
  | .int i, .int j => if -(2 ^ 62) ≤ i ∧ i < 2 ^ 62 ∧ -(2 ^ 62) ≤ j ∧ j < 2 ^ 62 then .ok ⟨rng i j, fun _ => true⟩ h2 else .st
  | _, _ => .st
/-- a list read, at a place -/
theorem lst_at {w : Wd} {c0 c : Cf} {H0 H : Hp} {h0 h : AH} (R0 : Rel w c0 h0 H0) (R : Rel w c h H) (E : Ext c0 H0 c H) {d : D} {v : V} {xs : List D} (r : Rep w c0 d v) (q : seqL h0 d = some xs) (hk : lstOk d xs h = true) :
    ∃ a vs, v = .ref a ∧ SqL w.K H a vs ∧ RepL w c xs vs := by
  have q2 : seqL h d = some xs := by
    cases d with
    | ref k =>
      simp only [lstOk] at hk
      split at hk
      · rename_i ys e
        rw [D.eqbL_eq hk] at e
        simp [seqL, e]
      · cases hk
    | lst ys => exact q
    | fz ys => exact q
    | _ => simp [seqL] at q
  exact seqL_ok R (r.ext E) q2
section
variable {X : Cx} {T : Nat → Addr} {W : WX} {a b e o tg iter : Expr} {ma mb mo : ME} {ms : MA} {pos p : Pos}
theorem i_lst (he : PE X e (tM (Wd.mk X.K T) W ma)) : PI X tg e (tI (Wd.mk X.K T) W (iLst ma)) :=
  PIi (pi_list he) fun σ H R ⟨c, s, h, R0, S, z⟩ => ⟨c, s, h, R0, S, (OutW.bind (A := Rep (Wd.mk X.K T)) z).mono (by
    rintro v H1 ⟨c1, h1, d, R1, E1, r1, o⟩
    split at o
    · rename_i xs q
      obtain ⟨av, vs, rfl, sq, rl⟩ := seqL_ok R1 r1 q
      refine ⟨av, rfl, ⟨vs, sq⟩, o c1 _ H1 R1 (.refl R1.sub) ?_⟩
      intro c2 h2 H2 i R2 E2 hk
      obtain ⟨a2, vs2, ea, sq2, rl2⟩ := lst_at R1 R2 E2 r1 q hk
      cases ea
      refine ⟨fun hi => ⟨vs2, sq2, by rw [← rl2.len, hi]; exact Nat.le_refl _⟩, fun d2 hd => ?_⟩
      obtain ⟨y, ey, ry⟩ := rl2.get hd
      refine ⟨⟨vs2, y, sq2, ey⟩, ?_⟩
      rintro x H' ⟨rfl, hx⟩
      have := hx vs2 sq2
      rw [ey] at this
      cases this
      exact ⟨c2, R2, .refl R2.sub, ry⟩
    · exact o.elim)⟩
theorem i_tup (he : PE X e (tM (Wd.mk X.K T) W ma)) : PI X tg e (tI (Wd.mk X.K T) W (iTup ma)) :=
  PIi (pi_tup he) fun σ H R ⟨c, s, h, R0, S, z⟩ => ⟨c, s, h, R0, S, (OutW.bind (A := Rep (Wd.mk X.K T)) z).mono (by
    rintro v H1 ⟨c1, h1, d, R1, E1, r1, o⟩
    split at o
    · rename_i xs q
      obtain ⟨av, vs, rfl, sq, rl⟩ := seqT_ok R1 r1 q
      refine ⟨av, rfl, ⟨vs, sq⟩, o c1 _ H1 R1 (.refl R1.sub) ?_⟩
      intro c2 h2 H2 i R2 E2 hk
      obtain ⟨a2, vs2, ea, sq2, rl2⟩ := seqT_ok R2 (r1.ext E2) q
      cases ea
      refine ⟨fun hi => ⟨vs2, sq2, by rw [← rl2.len, hi]; exact Nat.le_refl _⟩, fun d2 hd => ?_⟩
      obtain ⟨y, ey, ry⟩ := rl2.get hd
      refine ⟨⟨vs2, y, sq2, ey⟩, ?_⟩
      rintro x H' ⟨rfl, hx⟩
      have := hx vs2 sq2
      rw [ey] at this
      cases this
      exact ⟨c2, R2, .refl R2.sub, ry⟩
    · exact o.elim)⟩
/-- a list or a tuple -/
theorem i_seq (he : PE X e (tM (Wd.mk X.K T) W ma)) : PI X tg e (tI (Wd.mk X.K T) W (iSeq ma)) := by
  have lst := fun (m : ME) (h : PE X e (tM (Wd.mk X.K T) W m)) => i_lst (tg := tg) h
  refine ⟨fun pins s σ H R I z => ?_⟩
  obtain ⟨c, sl, h, R0, S, z⟩ := z
  -- run the expression once: which of both it is is told by the mirror
  cases q : ma sl h with
  | ok d h1 =>
    cases q2 : seqT d with
    | some xs =>
      refine (i_tup (tg := tg) he).run pins s σ H R I ⟨c, sl, h, R0, S, ?_⟩
      simp only [iSeq, iTup, q, Res.bind, q2] at z ⊢
      exact z
    | none =>
      refine (i_lst (tg := tg) he).run pins s σ H R I ⟨c, sl, h, R0, S, ?_⟩
      simp only [iSeq, iLst, q, Res.bind, q2] at z ⊢
      exact z
  | ex e h1 =>
    refine (i_lst (tg := tg) he).run pins s σ H R I ⟨c, sl, h, R0, S, ?_⟩
    simp only [iSeq, iLst, q, Res.bind] at z ⊢
    exact z
  | st =>
    simp only [iSeq, q, Res.bind] at z
    exact z.elim
theorem itr_ok {w : Wd} {c : Cf} {H : Hp} (lo hi : Int) : ItOk w c H (Itr lo (hi - lo).toNat) ⟨rng lo hi, fun _ => true⟩ := by
  intro c2 h2 H2 i R2 E2 _
  have hl : (rng lo hi).length = (hi - lo).toNat := by simp [rng]
  refine ⟨fun e => by show (hi - lo).toNat ≤ i; rw [← hl]; exact Nat.le_of_eq e.symm, fun d hd => ?_⟩
  have hi' : i < (hi - lo).toNat := by rw [← hl]; exact (List.getElem?_eq_some_iff.mp hd).1
  have : d = .int (lo + (i : Nat)) := by
    have hd : (rng lo hi)[i]? = some d := hd
    simp only [rng, List.getElem?_map, List.getElem?_range hi', Option.map_some, Option.some.injEq] at hd
    exact hd.symm
  subst this
  exact ⟨hi', fun x H' ⟨e1, e2⟩ => by subst e1 e2; exact ⟨c2, R2, .refl R2.sub, by simp [Rep]⟩⟩
theorem i_rng1 (hm : X.mg "range" = none) (ha : PE X a (tM (Wd.mk X.K T) W ma)) (hg : Gl X "range" := by rfl) (hs : starEach [a] X.env = [(false, eval a X.env)] := by rfl) : PI X tg (.Call (.Name "range" p) [a] [] pos) (tI (Wd.mk X.K T) W (iRng1 ma)) :=
  PIi (pi_range1 hg hm (pa_cons ha pa_nil hs) hs) fun σ H R ⟨c, s, h, R0, S, z⟩ => ⟨c, s, h, R0, S, (OutW.bind (A := Rep (Wd.mk X.K T)) z).mono (by
    rintro v H1 ⟨c1, h1, d, R1, E1, r1, o⟩
    split at o
    · rename_i j
      simp only [Rep] at r1
      subst r1
      split at o
      · rename_i hj
        refine ⟨j, rfl, hj.1, hj.2, o c1 _ H1 R1 (.refl R1.sub) ?_⟩
        have := itr_ok (w := (Wd.mk X.K T)) (c := c1) (H := H1) 0 j
        rw [Int.sub_zero] at this
        exact this
      · exact o.elim
    · exact o.elim)⟩
theorem i_rng2 (hm : X.mg "range" = none) (ha : PE X a (tM (Wd.mk X.K T) W ma)) (hb : PE X b (tM (Wd.mk X.K T) W mb)) (hg : Gl X "range" := by rfl) (hs : starEach [a, b] X.env = [(false, eval a X.env), (false, eval b X.env)] := by rfl) (hs2 : starEach [b] X.env = [(false, eval b X.env)] := by rfl) :
    PI X tg (.Call (.Name "range" p) [a, b] [] pos) (tI (Wd.mk X.K T) W (iRng2 ma mb)) :=
  PIi (pi_range2 hg hm (pa_cons ha (pa_cons hb pa_nil hs2) (by rw [hs, hs2])) hs hs2) fun σ H R ⟨c, s, h, R0, S, z⟩ => ⟨c, s, h, R0, S, (OutW.bind (A := Rep (Wd.mk X.K T)) z).mono (by
    rintro v H1 ⟨c1, h1, d, R1, E1, r1, o⟩
    refine ⟨c1, s, h1, R1, S.ext E1, (OutW.bind (A := Rep (Wd.mk X.K T)) o).mono ?_⟩
    rintro v2 H2 ⟨c2, h2, d2, R2, E2, r2, o2⟩
    split at o2
    · rename_i i j
      simp only [Rep] at r1 r2
      subst r1 r2
      split at o2
      · rename_i hj
        exact ⟨i, j, rfl, hj, o2 c2 _ H2 R2 (.refl R2.sub) (itr_ok i j)⟩
      · exact o2.elim
    · exact o2.elim)⟩

/-! ### for -/
def forL (ok : AH → Bool) (g : MG) (b : MS) : List D → Sl → AH → RS
  | [], s, h => if ok h = true then .nx s h else .st
  | x :: xs, s, h => if ok h = true then match g x s h with
    | some (s1, h1) => match b s1 h1 with
      | .nx s2 h2 => forL ok g b xs s2 h2
      | .ct s2 h2 => forL ok g b xs s2 h2
      | .bk s2 h2 => .nx s2 h2
      | .rt d h2 => .rt d h2
      | .ex e s2 h2 => .ex e s2 h2
      | .st => .st
    | none => .st
    else .st
def sFor (m : MI) (g : MG) (b : MS) : MS := fun s h => (m s h).bindS s fun k h1 => forL k.ok g b k.xs s h1
theorem OutS.bindW {w : Wd} {c : Cf} {H : Hp} {W : WX} {D : Ends} {s : Sl} {σ : L2.St} (S : RelS w c s σ) {f : Walk → AH → RS} : ∀ {r : Res Walk}, OutS w c H W D (r.bindS s f) →
    OutW w c H (fun cls dd H' => W cls dd σ H') (fun J H1 => ∃ c1 h1 k, Rel w c1 h1 H1 ∧ Ext c H c1 H1 ∧ ItOk w c1 H1 J k ∧ OutS w c1 H1 W D (f k h1)) r
  | .ok k h', o => fun c' J H' R e i => ⟨c', h', k, R, e, i, OutS.shift e o⟩
  | .ex _ _, o => fun c' cls dd H' R e x => o c' cls dd σ H' R e (S.ext e) x
  | .st, o => o
theorem OutW.mono {w : Wd} {c : Cf} {H : Hp} {E : XK} {R R' : It → Hp → Prop} (q : ∀ J H', R J H' → R' J H') : ∀ {r : Res Walk}, OutW w c H E R r → OutW w c H E R' r
  | .ok _ _, o => fun c' b H' R e a => q _ _ (o c' b H' R e a)
  | .ex _ _, o => o
  | .st, o => o
theorem s_for {body : List Stmt} {mi : MI} {g : MG} {mb : MS} (hp : PassesOwn (model X.prog X.w) X.A X.env X.xe) (hc : X.calm = true) (hi : PI X tg iter (tI (Wd.mk X.K T) W mi)) (hg : PG X tg (tG (Wd.mk X.K T) g)) (hb : PSs X body (tS (Wd.mk X.K T) W mb)) (hs : ∀ x, foldedSetIterable iter X.env x = pure x := by intro _; rfl) :
    PS X (.For tg iter body [] pos) (tS (Wd.mk X.K T) W (sFor mi g mb)) :=
  PSi (ps_for hp hc hi hg hb hs) fun D σ H ⟨c, s, h, R0, S, z⟩ => by
    refine ⟨c, s, h, R0, S, (OutS.bindW S z).mono ?_⟩
    rintro J H1 ⟨c1, h1, k, R1, E1, hit, o⟩
    refine ⟨fun i m σ' H' => i ≤ k.xs.length ∧ m = k.xs.length - i ∧ ∃ c' s' h', Rel (Wd.mk X.K T) c' h' H' ∧ RelS (Wd.mk X.K T) c' s' σ' ∧ Ext c1 H1 c' H' ∧ OutS (Wd.mk X.K T) c' H' W D (forL k.ok g mb (k.xs.drop i) s' h'), ⟨_, Nat.zero_le _, rfl, c1, s, h1, R1, S.ext E1, .refl R1.sub, by rw [List.drop_zero]; exact o⟩, ?_⟩
    rintro i m σ' H' ⟨hil, rfl, c', s', h', R', S', E', o'⟩
    by_cases hlt : i < k.xs.length
    · right
      have hd : k.xs.drop i = k.xs[i] :: k.xs.drop (i + 1) := List.drop_eq_getElem_cons hlt
      rw [hd] at o'
      simp only [forL] at o'
      split at o'
      · rename_i hk
        have hi := (hit c' h' H' i R' E' hk).2 k.xs[i] (by simp [hlt])
        refine ⟨hi.1, fun σ2 H2 => ∃ c2 s2 h2, Rel (Wd.mk X.K T) c2 h2 H2 ∧ RelS (Wd.mk X.K T) c2 s2 σ2 ∧ Ext c1 H1 c2 H2 ∧ OutS (Wd.mk X.K T) c2 H2 W D (forL k.ok g mb (k.xs.drop (i + 1)) s2 h2), fun σ2 H2 q => ⟨_, Nat.sub_lt_sub_left hlt (Nat.lt_succ_self i), hlt, rfl, q⟩, fun x H2 y => ?_⟩
        obtain ⟨c2, R2, E2, r2⟩ := hi.2 x H2 y
        refine ⟨c2, s', h', k.xs[i], R2, S'.ext E2, r2, ?_⟩
        have o2 := OutS.shift E2 o'
        cases q : g k.xs[i] s' h' with
        | none => rw [q] at o2; exact o2.elim
        | some p =>
          obtain ⟨s3, h3⟩ := p
          rw [q] at o2
          intro c3 σ3 H3 R3 E3 S3
          refine ⟨c3, s3, h3, R3, S3, ?_⟩
          have o3 := OutS.shift E3 o2
          have E13 := (E'.trans E2).trans E3
          dsimp only at o3
          cases q3 : mb s3 h3 with
          | nx s4 h4 => rw [q3] at o3; exact fun c4 σ4 H4 R4 E4 S4 => ⟨c4, s4, h4, R4, S4, E13.trans E4, OutS.shift E4 o3⟩
          | ct s4 h4 => rw [q3] at o3; exact fun c4 σ4 H4 R4 E4 S4 => ⟨c4, s4, h4, R4, S4, E13.trans E4, OutS.shift E4 o3⟩
          | bk s4 h4 => rw [q3] at o3; exact o3
          | rt d h4 => rw [q3] at o3; exact o3
          | ex e s4 h4 => rw [q3] at o3; exact o3
          | st => rw [q3] at o3; exact o3
      · exact o'.elim
    · left
      have he : i = k.xs.length := by omega
      rw [List.drop_eq_nil_of_le (by omega)] at o'
      simp only [forL] at o'
      split at o'
      · rename_i hk
        exact ⟨(hit c' h' H' i R' E' hk).1 he, o' c' σ' H' R' (.refl R'.sub) S'⟩
      · exact o'.elim
/-! ### while: at most n turns -/
def whL (t : MT) (b : MS) : Nat → Sl → AH → RS
  | 0, _, _ => .st
  | n + 1, s, h => (t s h).bindS s fun k h1 => if k = true then match b s h1 with
    | .nx s2 h2 => whL t b n s2 h2
    | .ct s2 h2 => whL t b n s2 h2
    | .bk s2 h2 => .nx s2 h2
    | .rt d h2 => .rt d h2
    | .ex e s2 h2 => .ex e s2 h2
    | .st => .st
    else .nx s h1
def sWhile (n : Nat) (t : MT) (b : MS) : MS := fun s h => whL t b n s h
theorem s_while {n : Nat} {test : Expr} {body : List Stmt} {mt : MT} {mb : MS} (hp : PassesOwn (model X.prog X.w) X.A X.env X.xe) (ht : PT X test (tT (Wd.mk X.K T) W mt)) (hb : PSs X body (tS (Wd.mk X.K T) W mb)) : PS X (.While test body [] pos) (tS (Wd.mk X.K T) W (sWhile n mt mb)) :=
  PSi (ps_while hp ht hb) fun D σ H ⟨c, s, h, R0, S, z⟩ => by
    refine ⟨fun m σ' H' => ∃ c' s' h', Rel (Wd.mk X.K T) c' h' H' ∧ RelS (Wd.mk X.K T) c' s' σ' ∧ OutS (Wd.mk X.K T) c' H' W D (whL mt mb m s' h'), ⟨n, c, s, h, R0, S, z⟩, ?_⟩
    rintro m σ' H' ⟨c', s', h', R', S', o'⟩
    cases m with
    | zero => exact o'.elim
    | succ m =>
      refine ⟨c', s', h', R', S', (OutS.bind (A := fun _ a b => a = b) S' o').mono ?_⟩
      rintro k H2 ⟨c2, h2, k', R2, E2, rfl, o2⟩
      cases k' with
      | false => exact o2 c2 σ' H2 R2 (.refl R2.sub) (S'.ext E2)
      | true =>
        rw [if_pos rfl] at o2 ⊢
        refine ⟨fun σ3 H3 => ∃ c3 s3 h3, Rel (Wd.mk X.K T) c3 h3 H3 ∧ RelS (Wd.mk X.K T) c3 s3 σ3 ∧ OutS (Wd.mk X.K T) c3 H3 W D (whL mt mb m s3 h3), fun σ3 H3 q => ⟨m, Nat.lt_succ_self m, q⟩, c2, s', h2, R2, S'.ext E2, ?_⟩
        cases q3 : mb s' h2 with
        | nx s4 h4 => rw [q3] at o2; exact fun c4 σ4 H4 R4 E4 S4 => ⟨c4, s4, h4, R4, S4, OutS.shift E4 o2⟩
        | ct s4 h4 => rw [q3] at o2; exact fun c4 σ4 H4 R4 E4 S4 => ⟨c4, s4, h4, R4, S4, OutS.shift E4 o2⟩
        | bk s4 h4 => rw [q3] at o2; exact o2
        | rt d h4 => rw [q3] at o2; exact o2
        | ex e s4 h4 => rw [q3] at o2; exact o2
        | st => rw [q3] at o2; exact o2

/-! ### comprehensions -/
def gNms : List Nat → TGs
  | [] => gNil
  | i :: is => gCons (gName i) (gNms is)
def setAll (s : Sl) : List Nat → List D → Option Sl
  | [], [] => some s
  | i :: is, d :: ds => setAll (s.set i (some d)) is ds
  | _, _ => none
def wipeD (s : Sl) : List Nat → Sl
  | [] => s
  | v :: vs => (wipeD s vs).set v none
/-- a comprehension's target: one name, a tuple of names -/
inductive CT where
  | one (i : Nat) | tup (is : List Nat)
def CT.set (d : D) (s : Sl) : CT → Option Sl
  | .one i => some (s.set i (some d))
  | .tup is => match seqT d with
    | some ds => if ds.length = is.length then setAll s is ds else none
    | none => none
def CT.tgt (K : PySem.W.Frag) : CT → TG
  | .one i => gName i
  | .tup is => gTup K is.length (gNms is)
def CT.sub (own : List Nat) : CT → Bool
  | .one i => own.contains i
  | .tup is => is.all own.contains
def compL (ok : AH → Bool) (own : List Nat) (g : CT) (t : MT) (e : ME) : List D → Sl → AH → List D → Res (List D)
  | [], _, h, acc => if ok h = true then .ok acc h else .st
  | x :: xs, s, h, acc => if ok h = true then match g.set x (wipeD s own) with
    | some s1 => match t s1 h with
      | .ok b h2 => if b = true then match e s1 h2 with
          | .ok y h3 => if acc.length < 100000 then compL ok own g t e xs s h3 (acc ++ [y]) else .st
          | _ => .st
        else compL ok own g t e xs s h2 acc
      | _ => .st
    | none => .st
    else .st
def eComp (own : List Nat) (m : MI) (g : CT) (t : MT) (e : ME) : ME := fun s h => (m s h).bind fun k h1 => (compL k.ok own g t e k.xs s h1 []).bind fun ys h2 => .ok (.lst ys) h2
/-- .. a list that is written later -/
def eCompN (own : List Nat) (m : MI) (g : CT) (t : MT) (e : ME) : ME := fun s h => (m s h).bind fun k h1 => (compL k.ok own g t e k.xs s h1 []).bind fun ys h2 => .ok (.ref h2.n) (h2.new (.lst ys))
def tYesD : MT := fun _ h => .ok true h
theorem RelS.wipe {w : Wd} {c : Cf} {s : Sl} {σ : L2.St} (S : RelS w c s σ) : ∀ vs : List Nat, RelS w c (wipeD s vs) (L2.wipe σ vs)
  | [] => S
  | v :: vs => (RelS.wipe S vs).wipe1
theorem wipe_get (σ : L2.St) : ∀ (vs : List Nat) (k : Nat), (L2.wipe σ vs)[k]? = if k ∈ vs then (if k < σ.length then some none else none) else σ[k]?
  | [], k => by simp [L2.wipe]
  | v :: vs, k => by
    simp only [L2.wipe, List.getElem?_set, L2.wipe_length, wipe_get σ vs k, List.mem_cons]
    by_cases e : v = k
    · subst e
      simp
    · have e' : ¬ k = v := fun z => e z.symm
      simp [e, e']
theorem wipe_set {σ : L2.St} {own : List Nat} {i : Nat} {o : Option V} (h : i ∈ own) : L2.wipe (σ.set i o) own = L2.wipe σ own := by
  refine List.ext_getElem? fun k => ?_
  rw [wipe_get, wipe_get, List.length_set]
  by_cases e : k ∈ own
  · rw [if_pos e, if_pos e]
  · rw [if_neg e, if_neg e, List.getElem?_set_ne (fun z => e (by rw [← z]; exact h))]
theorem wipe_idem {σ : L2.St} {own : List Nat} : L2.wipe (L2.wipe σ own) own = L2.wipe σ own := by
  refine List.ext_getElem? fun k => ?_
  rw [wipe_get, wipe_get, L2.wipe_length]
  by_cases e : k ∈ own
  · rw [if_pos e, if_pos e]
  · rw [if_neg e, if_neg e]
theorem nms_ok {w : Wd} {c : Cf} {own : List Nat} {H : Hp} {σ0 : L2.St} : ∀ {is : List Nat} {s s1 : Sl} {ds : List D} {vs : List V} {σ : L2.St} {Q : L2.St → Hp → Prop}, RelS w c s σ → RepL w c ds vs → setAll s is ds = some s1 → (∀ i ∈ is, i ∈ own) → L2.wipe σ own = L2.wipe σ0 own →
    (∀ σ2, RelS w c s1 σ2 → L2.wipe σ2 own = L2.wipe σ0 own → Q σ2 H) → gNms is vs σ H Q
  | [], s, s1, [], vs, σ, Q, S, r, e, hs, hw, q => by
    cases e
    exact ⟨by simpa [RepL] using r, q σ S hw⟩
  | i :: is, s, s1, d :: ds, vs, σ, Q, S, r, e, hs, hw, q => by
    simp only [RepL] at r
    obtain ⟨y, ys, rfl, r1, r2⟩ := r
    refine ⟨y, ys, rfl, nms_ok (S.set r1) r2 e (fun j hj => hs j (List.mem_cons_of_mem _ hj)) ?_ q⟩
    rw [wipe_set (hs i List.mem_cons_self)]
    exact hw
  | [], _, _, _ :: _, _, _, _, _, _, e, _, _, _ => by cases e
  | _ :: _, _, _, [], _, _, _, _, _, e, _, _, _ => by cases e
theorem ct_ok {w : Wd} {c : Cf} {h : AH} {own : List Nat} {H : Hp} {g : CT} {s s1 : Sl} {d : D} {v : V} {σ : L2.St} {Q : L2.St → Hp → Prop} (R : Rel w c h H) (S : RelS w c s σ) (r : Rep w c d v) (e : g.set d (wipeD s own) = some s1) (hs : g.sub own = true)
    (q : ∀ σ2, RelS w c s1 σ2 → L2.wipe σ2 own = L2.wipe σ own → Q σ2 H) : g.tgt w.K v (L2.wipe σ own) H Q := by
  cases g with
  | one i =>
    cases e
    simp only [CT.sub, List.contains_iff_mem] at hs
    exact q _ ((S.wipe own).set r) (by rw [wipe_set hs, wipe_idem])
  | tup is =>
    simp only [CT.set] at e
    split at e
    · rename_i ds ed
      split at e
      · rename_i hl
        obtain ⟨a, vs, rfl, t, rl⟩ := seqT_ok R r ed
        refine ⟨a, vs, rfl, t, by rw [← rl.len]; exact hl, nms_ok (σ0 := σ) (S.wipe own) rl e (fun i hi => ?_) wipe_idem q⟩
        simp only [CT.sub, List.all_eq_true, List.contains_iff_mem] at hs
        exact hs i hi
      · cases e
    · cases e
/-- the reading of a comprehension, its list handed on by fin -/
theorem lc_ok {mi : MI} {g : CT} {mt : MT} {me : ME} {own : List Nat} {σ : L2.St} {H : Hp} {Q : VK} (hs : g.sub own = true) {c : Cf} {s : Sl} {h : AH} (R0 : Rel (Wd.mk X.K T) c h H) (S : RelS (Wd.mk X.K T) c s σ) {fin : List D → AH → Res D}
    (o : Out (Wd.mk X.K T) c H (fun cls dd H' => W cls dd σ H') (Rep (Wd.mk X.K T)) Q ((mi s h).bind fun k h1 => (compL k.ok own g mt me k.xs s h1 []).bind fun ys h2 => fin ys h2))
    (hf : ∀ c1 H1 c2 h2 H2 ys vs p, Rel (Wd.mk X.K T) c2 h2 H2 → Ext c1 H1 c2 H2 → H1 p = none → c2.G p = none → H2 p = some (.lst vs) → RepL (Wd.mk X.K T) c2 ys vs → Out (Wd.mk X.K T) c1 H1 (fun cls dd H' => W cls dd σ H') (Rep (Wd.mk X.K T)) Q (fin ys h2) → Q (.ref p) H2) :
    tLc (tI (Wd.mk X.K T) W mi) (g.tgt X.K) (tT (Wd.mk X.K T) (fun _ _ _ _ => False) mt) (tM (Wd.mk X.K T) (fun _ _ _ _ => False) me) own σ H Q := by
  have o1 : OutW (Wd.mk X.K T) c H (fun cls dd H' => W cls dd σ H') (fun J H1 => ∃ c1 h1 k, Rel (Wd.mk X.K T) c1 h1 H1 ∧ Ext c H c1 H1 ∧ ItOk (Wd.mk X.K T) c1 H1 J k ∧ Out (Wd.mk X.K T) c1 H1 (fun cls dd H' => W cls dd σ H') (Rep (Wd.mk X.K T)) Q ((compL k.ok own g mt me k.xs s h1 []).bind fin)) (mi s h) := by
    cases q : mi s h with
    | ok k h1 => rw [q] at o; exact fun c' J H' R' E' i => ⟨c', h1, k, R', E', i, Out.shift E' o⟩
    | ex e h1 => rw [q] at o; exact o
    | st => rw [q] at o; exact o
  refine ⟨c, s, h, R0, S, OutW.mono ?_ o1⟩
  rintro J H1 ⟨c1, h1, k, R1, E1, hit, o2⟩ p hp
  have S1 := S.ext E1
  refine ⟨fun i m H' => i ≤ k.xs.length ∧ m = k.xs.length - i ∧ ∃ c' h' acc vs, Rel (Wd.mk X.K T) c' h' H' ∧ RelS (Wd.mk X.K T) c' s σ ∧ Ext c1 H1 c' H' ∧ c'.G p = none ∧ H' p = some (.lst vs) ∧ RepL (Wd.mk X.K T) c' acc vs ∧ acc.length ≤ 100000 ∧
      Out (Wd.mk X.K T) c1 H1 (fun cls dd H' => W cls dd σ H') (Rep (Wd.mk X.K T)) Q ((compL k.ok own g mt me (k.xs.drop i) s h' acc).bind fin),
    ⟨_, Nat.zero_le _, rfl, c1, h1, [], [], R1.priv (R1.gfree hp), S1, (Ext.refl R1.sub).priv hp, R1.gfree hp, upd_same, .nil, Nat.zero_le _, by rw [List.drop_zero]; exact o2⟩, ?_⟩
  rintro i m H' ⟨hil, rfl, c', h', acc, vs, R', S', E', gp, hD, ra, la, o'⟩
  by_cases hlt : i < k.xs.length
  · right
    have hd : k.xs.drop i = k.xs[i] :: k.xs.drop (i + 1) := List.drop_eq_getElem_cons hlt
    rw [hd] at o'
    simp only [compL] at o'
    split at o'
    · rename_i hk
      have hi := (hit c' h' H' i R' E' hk).2 k.xs[i] (by simp [hlt])
      refine ⟨hi.1, fun H2 => ∃ c' h' acc vs, Rel (Wd.mk X.K T) c' h' H2 ∧ RelS (Wd.mk X.K T) c' s σ ∧ Ext c1 H1 c' H2 ∧ c'.G p = none ∧ H2 p = some (.lst vs) ∧ RepL (Wd.mk X.K T) c' acc vs ∧ acc.length ≤ 100000 ∧
        Out (Wd.mk X.K T) c1 H1 (fun cls dd H' => W cls dd σ H') (Rep (Wd.mk X.K T)) Q ((compL k.ok own g mt me (k.xs.drop (i + 1)) s h' acc).bind fin), fun H2 q => ⟨_, Nat.sub_lt_sub_left hlt (Nat.lt_succ_self i), hlt, rfl, q⟩, fun x H2 y => ?_⟩
      obtain ⟨c2, R2, E2, r2⟩ := hi.2 x H2 y
      cases q : g.set k.xs[i] (wipeD s own) with
      | none => rw [q] at o'; exact o'.elim
      | some s1 =>
        rw [q] at o'
        dsimp only at o'
        refine ct_ok (w := (Wd.mk X.K T)) R2 (S'.ext E2) r2 q hs fun σ2 S2 hw => ⟨hw, ?_⟩
        have nid := R'.noidG gp
        have kp : ∀ {c3 H3}, Ext c' H' c3 H3 → c3.G p = none ∧ H3 p = some (.lst vs) := fun e => ⟨e.gnone gp (by rw [hD]; exact nofun), e.keep p _ hD nid⟩
        refine ⟨c2, s1, h', R2, S2, ?_⟩
        cases q2 : mt s1 h' with
        | ok bb h3 =>
          rw [q2] at o'
          dsimp only at o'
          intro c3 b3 H3 R3 E3 e3
          subst e3
          cases bb with
          | false =>
            rw [if_neg Bool.false_ne_true] at o' ⊢
            have E23 := E2.trans E3
            exact ⟨c3, h3, acc, vs, R3, S'.ext E23, E'.trans E23, (kp E23).1, (kp E23).2, ra.ext E23, la, o'⟩
          | true =>
            rw [if_pos rfl] at o' ⊢
            refine ⟨c3, s1, h3, R3, S2.ext E3, ?_⟩
            cases q4 : me s1 h3 with
            | ok y h4 =>
              rw [q4] at o'
              dsimp only at o'
              intro c4 v4 H4 R4 E4 r4
              have E24 := (E2.trans E3).trans E4
              split at o'
              · rename_i hl4
                have g4 := (kp E24).1
                exact ⟨vs, (kp E24).2, Nat.lt_of_lt_of_le (by rw [← ra.len]; exact hl4) (size5 (Nat.le_refl _)), c4, h4, acc ++ [y], vs ++ [v4], R4.priv g4, S'.ext E24, (E'.trans E24).priv hp, g4, upd_same, (ra.ext E24).append (.cons r4 .nil), by simp; omega, o'⟩
              · exact o'.elim
            | ex e h4 => rw [q4] at o'; exact o'.elim
            | st => rw [q4] at o'; exact o'.elim
        | ex e h4 => rw [q2] at o'; exact o'.elim
        | st => rw [q2] at o'; exact o'.elim
    · exact o'.elim
  · left
    have he : i = k.xs.length := by omega
    rw [List.drop_eq_nil_of_le (by omega)] at o'
    simp only [compL] at o'
    split at o'
    · rename_i hk
      exact ⟨(hit c' h' H' i R' E' hk).1 he, hf c1 H1 c' h' H' acc vs p R' E' hp gp hD ra o'⟩
    · exact o'.elim
theorem fin_lst {σ : L2.St} {Q : VK} : ∀ c1 H1 c2 h2 H2 ys vs p, Rel (Wd.mk X.K T) c2 h2 H2 → Ext c1 H1 c2 H2 → H1 p = none → c2.G p = none → H2 p = some (.lst vs) → RepL (Wd.mk X.K T) c2 ys vs → Out (Wd.mk X.K T) c1 H1 (fun cls dd H' => W cls dd σ H') (Rep (Wd.mk X.K T)) Q (.ok (.lst ys) h2) → Q (.ref p) H2 := by
  intro c1 H1 c2 h2 H2 ys vs p R2 E2 hp gp hD r o
  obtain ⟨R3, M⟩ := R2.join gp hD
  refine o _ _ H2 R3 (E2.join hp) ?_
  simp only [Rep]
  exact ⟨p, vs, rfl, ⟨upd_same, R2.noidG gp⟩, r.mo M⟩
theorem fin_ref {σ : L2.St} {Q : VK} : ∀ c1 H1 c2 h2 H2 ys vs p, Rel (Wd.mk X.K T) c2 h2 H2 → Ext c1 H1 c2 H2 → H1 p = none → c2.G p = none → H2 p = some (.lst vs) → RepL (Wd.mk X.K T) c2 ys vs → Out (Wd.mk X.K T) c1 H1 (fun cls dd H' => W cls dd σ H') (Rep (Wd.mk X.K T)) Q (.ok (.ref h2.n) (h2.new (.lst ys))) → Q (.ref p) H2 := by
  intro c1 H1 c2 h2 H2 ys vs p R2 E2 hp gp hD r o
  obtain ⟨R3, M⟩ := R2.joinId gp hD (o := .lst ys) ⟨vs, rfl, r⟩
  refine o _ _ H2 R3 (E2.joinId hp) ?_
  simp only [Rep]
  exact ⟨by show V.ref p = V.ref (if h2.n = c2.n then p else _); rw [if_pos R2.n.symm], by show h2.n < c2.n + 1; rw [R2.n]; exact Nat.lt_succ_self _⟩
section
variable {elt : Expr} {ifs : List Expr} {scope : Scope} {own : List (Str × Nat)} {mi : MI} {g : CT} {mt : MT} {me : ME}
theorem r_comp (hc : X.calm = true) (hN : X.N.Nodup) (hi : PI X tg iter (tI (Wd.mk X.K T) W mi)) (ok : BlkOk X.N X.env.scope scope own)
    (hg : ∀ (s : Shared) (H : Hp) (C : Addr) (cl : List (Str × Addr)) (fp : List Addr), PG (X.blk s H scope (compEnvC scope cl C X.env) fp) tg (g.tgt X.K))
    (ht : ∀ (s : Shared) (H : Hp) (C : Addr) (cl : List (Str × Addr)) (fp : List Addr), PTs (X.blk s H scope (compEnvC scope cl C X.env) fp) ifs (tT (Wd.mk X.K T) (fun _ _ _ _ => False) mt))
    (he : ∀ (s : Shared) (H : Hp) (C : Addr) (cl : List (Str × Addr)) (fp : List Addr), PE (X.blk s H scope (compEnvC scope cl C X.env) fp) elt (tM (Wd.mk X.K T) (fun _ _ _ _ => False) me))
    (hs : g.sub (own.map (·.2)) = true := by rfl) (hs2 : ∀ x, foldedSetIterable iter X.env x = pure x := by intro _; rfl) :
    PE X (.ListComp elt [⟨tg, iter, ifs, 0⟩] scope pos) (tM (Wd.mk X.K T) W (eComp (own.map (·.2)) mi g mt me)) :=
  PEi (pe_lc hc hN hi ok hg ht he hs2) fun σ H Q ⟨c, s, h, R, S, o⟩ => lc_ok hs R S o fin_lst
theorem r_compN (hc : X.calm = true) (hN : X.N.Nodup) (hi : PI X tg iter (tI (Wd.mk X.K T) W mi)) (ok : BlkOk X.N X.env.scope scope own)
    (hg : ∀ (s : Shared) (H : Hp) (C : Addr) (cl : List (Str × Addr)) (fp : List Addr), PG (X.blk s H scope (compEnvC scope cl C X.env) fp) tg (g.tgt X.K))
    (ht : ∀ (s : Shared) (H : Hp) (C : Addr) (cl : List (Str × Addr)) (fp : List Addr), PTs (X.blk s H scope (compEnvC scope cl C X.env) fp) ifs (tT (Wd.mk X.K T) (fun _ _ _ _ => False) mt))
    (he : ∀ (s : Shared) (H : Hp) (C : Addr) (cl : List (Str × Addr)) (fp : List Addr), PE (X.blk s H scope (compEnvC scope cl C X.env) fp) elt (tM (Wd.mk X.K T) (fun _ _ _ _ => False) me))
    (hs : g.sub (own.map (·.2)) = true := by rfl) (hs2 : ∀ x, foldedSetIterable iter X.env x = pure x := by intro _; rfl) :
    PE X (.ListComp elt [⟨tg, iter, ifs, 0⟩] scope pos) (tM (Wd.mk X.K T) W (eCompN (own.map (·.2)) mi g mt me)) :=
  PEi (pe_lc hc hN hi ok hg ht he hs2) fun σ H Q ⟨c, s, h, R, S, o⟩ => lc_ok hs R S o fin_ref
/-- name = [..] -/
theorem s_comp {i : Nat} {y : Str} {py spos : Pos} (hc : X.calm = true) (hN : X.N.Nodup) (hi : PI X tg iter (tI (Wd.mk X.K T) W mi)) (ok : BlkOk X.N X.env.scope scope own)
    (hg : ∀ (s : Shared) (H : Hp) (C : Addr) (cl : List (Str × Addr)) (fp : List Addr), PG (X.blk s H scope (compEnvC scope cl C X.env) fp) tg (g.tgt X.K))
    (ht : ∀ (s : Shared) (H : Hp) (C : Addr) (cl : List (Str × Addr)) (fp : List Addr), PTs (X.blk s H scope (compEnvC scope cl C X.env) fp) ifs (tT (Wd.mk X.K T) (fun _ _ _ _ => False) mt))
    (he : ∀ (s : Shared) (H : Hp) (C : Addr) (cl : List (Str × Addr)) (fp : List Addr), PE (X.blk s H scope (compEnvC scope cl C X.env) fp) elt (tM (Wd.mk X.K T) (fun _ _ _ _ => False) me))
    (hsw : swapsWith (.ListComp elt [⟨tg, iter, ifs, 0⟩] scope pos) (some (.Name y py)) spos.line X.env = pure true) (hy : X.N[i]? = some y := by rfl) (hyl : X.env.scope.names.lookup y = some .local := by rfl)
    (hs : g.sub (own.map (·.2)) = true := by rfl) (hs2 : ∀ x, foldedSetIterable iter X.env x = pure x := by intro _; rfl) :
    PS X (.Assign [.Name y py] (.ListComp elt [⟨tg, iter, ifs, 0⟩] scope pos) spos) (tS (Wd.mk X.K T) W (sSet i (eComp (own.map (·.2)) mi g mt me))) :=
  PSi (ps_setLc hc hN hy hyl hsw hi ok hg ht he hs2) fun D σ H ⟨c, s, h, R, S, o⟩ => by
    have o2 := OutS.bind (A := Rep (Wd.mk X.K T)) S o
    refine lc_ok (W := W) (Q := fun x H1 => gName i x σ H1 D.nx) hs R S (fin := fun ys h2 => .ok (.lst ys) h2) (o2.mono ?_) fin_lst
    rintro v H1 ⟨c1, h1, d, R1, E1, r1, o1⟩
    exact o1 c1 _ H1 R1 (.refl R1.sub) ((S.ext E1).set r1)
theorem s_compN {i : Nat} {y : Str} {py spos : Pos} (hc : X.calm = true) (hN : X.N.Nodup) (hi : PI X tg iter (tI (Wd.mk X.K T) W mi)) (ok : BlkOk X.N X.env.scope scope own)
    (hg : ∀ (s : Shared) (H : Hp) (C : Addr) (cl : List (Str × Addr)) (fp : List Addr), PG (X.blk s H scope (compEnvC scope cl C X.env) fp) tg (g.tgt X.K))
    (ht : ∀ (s : Shared) (H : Hp) (C : Addr) (cl : List (Str × Addr)) (fp : List Addr), PTs (X.blk s H scope (compEnvC scope cl C X.env) fp) ifs (tT (Wd.mk X.K T) (fun _ _ _ _ => False) mt))
    (he : ∀ (s : Shared) (H : Hp) (C : Addr) (cl : List (Str × Addr)) (fp : List Addr), PE (X.blk s H scope (compEnvC scope cl C X.env) fp) elt (tM (Wd.mk X.K T) (fun _ _ _ _ => False) me))
    (hsw : swapsWith (.ListComp elt [⟨tg, iter, ifs, 0⟩] scope pos) (some (.Name y py)) spos.line X.env = pure true) (hy : X.N[i]? = some y := by rfl) (hyl : X.env.scope.names.lookup y = some .local := by rfl)
    (hs : g.sub (own.map (·.2)) = true := by rfl) (hs2 : ∀ x, foldedSetIterable iter X.env x = pure x := by intro _; rfl) :
    PS X (.Assign [.Name y py] (.ListComp elt [⟨tg, iter, ifs, 0⟩] scope pos) spos) (tS (Wd.mk X.K T) W (sSet i (eCompN (own.map (·.2)) mi g mt me))) :=
  PSi (ps_setLc hc hN hy hyl hsw hi ok hg ht he hs2) fun D σ H ⟨c, s, h, R, S, o⟩ => by
    have o2 := OutS.bind (A := Rep (Wd.mk X.K T)) S o
    refine lc_ok (W := W) (Q := fun x H1 => gName i x σ H1 D.nx) hs R S (fin := fun ys h2 => .ok (.ref h2.n) (h2.new (.lst ys))) (o2.mono ?_) fin_ref
    rintro v H1 ⟨c1, h1, d, R1, E1, r1, o1⟩
    exact o1 c1 _ H1 R1 (.refl R1.sub) ((S.ext E1).set r1)
end
theorem ts_nil : PTs X [] (tT (Wd.mk X.K T) W tYesD) := ⟨fun pins s σ H Q I ⟨c, sl, h, R, S, o⟩ => pts_nil.run pins s σ H Q I (o c true H R (.refl R.sub) rfl)⟩
theorem ts_one {e : Expr} {mt : MT} (h : PT X e (tT (Wd.mk X.K T) W mt)) : PTs X [e] (tT (Wd.mk X.K T) W mt) := pts_one h
end
end MP
set_option Elab.async false
set_option linter.all false
set_option maxRecDepth 100000
set_option maxHeartbeats 4000000
/-! mirrors: operations on values -/
namespace MP
open PySem PySem.Spec L2
open PyProof.Rows hiding St

/-! ### numbers, texts, tuples, lists -/
def pAdd (h : AH) : D → D → Option D
  | .int i, .int j => some (.int (i + j))
  | .str a, .str b => if a.length + b.length ≤ 100000 then some (.str (a ++ b)) else none
  | .tup xs, .tup ys => if xs ≠ [] ∧ xs.length + ys.length ≤ 100000 then some (.tup (xs ++ ys)) else none
  | x, y => match seqM h x, seqM h y with
    | some xs, some ys => if xs.length + ys.length ≤ 100000 then some (.lst (xs ++ ys)) else none
    | _, _ => none
def pSub (_ : AH) : D → D → Option D
  | .int i, .int j => some (.int (i - j))
  | _, _ => none
def pMul (_ : AH) : D → D → Option D
  | .int i, .int j => if (-(2 ^ 64) < i ∧ i < 2 ^ 64) ∨ (-(2 ^ 64) < j ∧ j < 2 ^ 64) then some (.int (i * j)) else none
  | _, _ => none
def pDiv (_ : AH) : D → D → Option D
  | .int i, .int j => if 0 < j ∧ j < 2 ^ 200 then some (.int (i / j)) else none
  | _, _ => none
def pMod (_ : AH) : D → D → Option D
  | .int i, .int j => if 0 < j then some (.int (i % j)) else none
  | _, _ => none
def pPow (_ : AH) : D → D → Option D
  | .int i, .int j => if 0 ≤ j ∧ j ≤ 1000 ∧ i.natAbs < 2 ^ 200 then some (.int (i ^ j.toNat)) else none
  | _, _ => none
def pNeg (_ : AH) : D → Option D
  | .int i => some (.int (-i))
  | _ => none
def pLt (_ : AH) : D → D → Option D
  | .int i, .int j => some (.bl (decide (i < j)))
  | _, _ => none
def pLe (_ : AH) : D → D → Option D
  | .int i, .int j => some (.bl (decide (i ≤ j)))
  | _, _ => none
def pGt (_ : AH) : D → D → Option D
  | .int i, .int j => some (.bl (decide (j < i)))
  | _, _ => none
def pGe (_ : AH) : D → D → Option D
  | .int i, .int j => some (.bl (decide (j ≤ i)))
  | _, _ => none
/-- data as the library's == and repr take it -/
def PyLst (ds : List PyData) : PyData := .list ds
mutual
def pdI : D → Option PyData
  | .non => some .none
  | .bl b => some (.bool b)
  | .int i => some (.int i)
  | .str x => some (.str x)
  | .tup ds => match pdL ds with
    | some l => some (.tuple l)
    | none => none
  | .lst ds => match pdL ds with
    | some l => some (.list l)
    | none => none
  | .fz ds => match pdL ds with
    | some l => some (.list l)
    | none => none
  | .ref _ => none
  | .con _ => none
def pdL : List D → Option (List PyData)
  | [] => some []
  | d :: ds => match pdI d, pdL ds with
    | some x, some xs => some (x :: xs)
    | _, _ => none
end
def pd (h : AH) (d : D) : Option PyData := match d with
  | .ref k => match h.g k with
    | some (.lst xs) => match pdL xs with
      | some l => some (.list l)
      | none => none
    | _ => none
  | d => pdI d
def sEq : D → D → Option Bool
  | .non, .non => some true
  | .non, .int _ => some false
  | .int _, .non => some false
  | .non, .str _ => some false
  | .str _, .non => some false
  | .int i, .int j => some (i == j)
  | .bl i, .bl j => some (i == j)
  | .str i, .str j => some (decide (i = j))
  | .int _, .str _ => some false
  | .str _, .int _ => some false
  | _, _ => none
def pEqB (h : AH) (x y : D) : Option Bool := match sEq x y with
  | some b => some b
  | none => match pd h x, pd h y with
    | some a, some b => if SeqAt.shaped a = true ∧ SeqAt.shaped b = true then some (PyData.eqv a b) else none
    | _, _ => none
def pEq (h : AH) (x y : D) : Option D := match pEqB h x y with
  | some b => some (.bl b)
  | none => none
def pNe (h : AH) (x y : D) : Option D := match pEqB h x y with
  | some b => some (.bl (!b))
  | none => none
def isNon : D → Bool
  | .non => true
  | _ => false
def pIs (_ : AH) (x y : D) : Option D := match y with
  | .non => some (.bl (isNon x))
  | _ => none
def pIsNot (_ : AH) (x y : D) : Option D := match y with
  | .non => some (.bl (!isNon x))
  | _ => none
/-- an index, from behind too -/
def atD (xs : List D) (i : Int) : Option D := atI xs i
def pIx (h : AH) (x y : D) : Option D := match y with
  | .int i => match x with
    | .tup xs => atI xs i
    | .str z => if z.length ≤ 100000 then (atI z.cps.toList i).map fun c => .str ⟨#[c]⟩ else none
    | _ => match seqL h x with
      | some xs => atI xs i
      | none => none
  | _ => none

section
variable {w : Wd}
theorem rp_int {c : Cf} {i : Int} {v : V} (r : Rep w c (.int i) v) : v = .int i := by simpa [Rep] using r
theorem rp_bl {c : Cf} {i : Bool} {v : V} (r : Rep w c (.bl i) v) : v = .bl i := by simpa [Rep] using r
theorem rp_str {c : Cf} {i : Str} {v : V} (r : Rep w c (.str i) v) : v = .str i := by simpa [Rep] using r
theorem rp_non {c : Cf} {v : V} (r : Rep w c .non v) : v = .non := by simpa [Rep] using r
abbrev rAddA (K : PySem.W.Frag) : L2.R2 := fun x y H Q => rI0 (fun i j => .int (i + j)) x y H Q ∨ (∃ i j, x = .str i ∧ y = .str j ∧ i.length + j.length ≤ sizeLine ∧ Q (.str (i ++ j)) H) ∨ rCatT K x y H Q ∨ rCat x y H Q
theorem o_add {X : Cx} : OpR X (binaryOp .Add) (rAddA X.K) := op_add.or (op_add_str.or (op_catT.or op_cat))
theorem catL {c : Cf} {h : AH} {H : Hp} {x y z : D} {v u : V} {Q : VK} (R : Rel w c h H) (rx : Rep w c x v) (ry : Rep w c y u) (e : (match seqM h x, seqM h y with
    | some xs, some ys => if xs.length + ys.length ≤ 100000 then some (D.lst (xs ++ ys)) else none
    | _, _ => none) = some z) (G : Gives w c h H z Q) : rCat v u H Q := by
  split at e
  · rename_i xs ys e1 e2
    split at e
    · rename_i hl
      cases e
      obtain ⟨a, vs, rfl, ha, r1⟩ := seqM_ok R rx e1
      obtain ⟨b, us, rfl, hb, r2⟩ := seqM_ok R ry e2
      exact ⟨a, b, vs, us, rfl, rfl, ha, hb, by rw [← r1.len, ← r2.len]; exact size5 hl, fun p hp => G.lst R (r1.append r2) p hp⟩
    · cases e
  · cases e
theorem g_add : Op2 w (rAddA w.K) pAdd := by
  intro c h H x y z v u Q R rx ry e G
  unfold pAdd at e
  split at e
  · cases e
    exact .inl ⟨_, _, rp_int rx, rp_int ry, G.int R⟩
  · split at e
    · rename_i hl
      cases e
      exact .inr (.inl ⟨_, _, rp_str rx, rp_str ry, size5 hl, G.str R⟩)
    · cases e
  · split at e
    · rename_i xs ys hl
      cases e
      obtain ⟨a, vs, rfl, ha, r1⟩ := seqT_ok R rx rfl
      obtain ⟨b, us, rfl, hb, r2⟩ := seqT_ok R ry rfl
      refine .inr (.inr (.inl ⟨a, b, vs, us, rfl, rfl, ha, hb, ?_, by rw [← r1.len, ← r2.len]; exact size5 hl.2, fun q => ?_, fun _ p hp => G.tup R (r1.append r2) p hp⟩))
      · intro q
        have := r1.len
        rw [q] at this
        exact hl.1 (List.length_eq_zero_iff.mp this)
      · have e0 := r2.len
        rw [q] at e0
        have : ys = [] := List.length_eq_zero_iff.mp e0
        subst this
        rw [List.append_nil] at G
        exact G.same R rx
    · cases e
  · exact .inr (.inr (.inr (catL R rx ry e G)))
theorem g_sub : Op2 w (rI0 fun i j => .int (i - j)) pSub := by
  intro c h H x y z v u Q R rx ry e G
  unfold pSub at e
  split at e
  · cases e
    exact ⟨_, _, rp_int rx, rp_int ry, G.int R⟩
  · cases e
theorem g_mul : Op2 w (rI CMul fun i j => .int (i * j)) pMul := by
  intro c h H x y z v u Q R rx ry e G
  unfold pMul at e
  split at e
  · split at e
    · rename_i hc
      cases e
      exact ⟨_, _, rp_int rx, rp_int ry, hc, G.int R⟩
    · cases e
  · cases e
theorem div_ok {j : Int} (h : 0 < j ∧ j < 2 ^ 200) : CDivW i j := wide_div (b := 200) h.1 (by have := h.2; omega) (by decide) (by decide)
theorem g_div : Op2 w (rI CDivW fun i j => .int (i / j)) pDiv := by
  intro c h H x y z v u Q R rx ry e G
  unfold pDiv at e
  split at e
  · split at e
    · rename_i hc
      cases e
      exact ⟨_, _, rp_int rx, rp_int ry, div_ok hc, G.int R⟩
    · cases e
  · cases e
theorem g_mod : Op2 w (rI (fun _ j => 0 < j) fun i j => .int (i % j)) pMod := by
  intro c h H x y z v u Q R rx ry e G
  unfold pMod at e
  split at e
  · split at e
    · rename_i hc
      cases e
      exact ⟨_, _, rp_int rx, rp_int ry, hc, G.int R⟩
    · cases e
  · cases e
def CPow2 (i j : Int) : Prop := 0 ≤ j ∧ j ≤ 1000 ∧ i.natAbs < 2 ^ 200
theorem pow_bits {a n : Int} (ha : a.natAbs < 2 ^ 200) (h0 : 0 ≤ n) (hn : n ≤ 1000) : (Builtin.Int.intBits a : Int) * n ≤ 2 ^ 27 := by
  have hb : Builtin.Int.intBits a ≤ 201 := by
    have := PySem.Flt.log2_lt_of (by decide) ha
    unfold Builtin.Int.intBits
    split <;> omega
  have h1 : (Builtin.Int.intBits a : Int) * n ≤ 201 * n := Int.mul_le_mul_of_nonneg_right (by omega) h0
  omega
theorem op_pow2 {X : Cx} : OpR X (binaryOp .Pow) (rI CPow2 fun i j => .int (i ^ j.toNat)) := opI fun _ _ _ _ _ _ _ hc q => pow_int hc.1 (pow_bits hc.2.2 hc.1 hc.2.1) q
theorem g_pow : Op2 w (rI CPow2 fun i j => .int (i ^ j.toNat)) pPow := by
  intro c h H x y z v u Q R rx ry e G
  unfold pPow at e
  split at e
  · split at e
    · rename_i hc
      cases e
      exact ⟨_, _, rp_int rx, rp_int ry, hc, G.int R⟩
    · cases e
  · cases e
theorem g_neg : Op1 w (rU fun i => .int (-i)) pNeg := by
  intro c h H x z v Q R rx e G
  unfold pNeg at e
  split at e
  · cases e
    exact ⟨_, rp_int rx, G.int R⟩
  · cases e
theorem g_lt : Op2 w (rI0 fun i j => .bl (decide (i < j))) pLt := by
  intro c h H x y z v u Q R rx ry e G
  unfold pLt at e
  split at e
  · cases e
    exact ⟨_, _, rp_int rx, rp_int ry, G.bl R⟩
  · cases e
theorem g_le : Op2 w (rI0 fun i j => .bl (decide (i ≤ j))) pLe := by
  intro c h H x y z v u Q R rx ry e G
  unfold pLe at e
  split at e
  · cases e
    exact ⟨_, _, rp_int rx, rp_int ry, G.bl R⟩
  · cases e
theorem g_gt : Op2 w (rI0 fun i j => .bl (decide (j < i))) pGt := by
  intro c h H x y z v u Q R rx ry e G
  unfold pGt at e
  split at e
  · cases e
    exact ⟨_, _, rp_int rx, rp_int ry, G.bl R⟩
  · cases e
theorem g_ge : Op2 w (rI0 fun i j => .bl (decide (j ≤ i))) pGe := by
  intro c h H x y z v u Q R rx ry e G
  unfold pGe at e
  split at e
  · cases e
    exact ⟨_, _, rp_int rx, rp_int ry, G.bl R⟩
  · cases e
theorem non_iff {c : Cf} {x : D} {v : V} (r : Rep w c x v) : decide (v = .non) = isNon x := by
  cases x <;> simp only [Rep] at r
  case non => subst r; rfl
  case bl => subst r; rfl
  case int => subst r; rfl
  case str => subst r; rfl
  case tup => obtain ⟨a, vs, rfl, _⟩ := r; rfl
  case lst => obtain ⟨a, vs, rfl, _⟩ := r; rfl
  case fz => obtain ⟨a, vs, rfl, _⟩ := r; rfl
  case ref => obtain ⟨rfl, _⟩ := r; rfl
  case con => subst r; rfl
theorem g_is : Op2 w (fun x y H Q => y = .non ∧ Q (.bl (decide (x = .non))) H) pIs := by
  intro c h H x y z v u Q R rx ry e G
  unfold pIs at e
  split at e
  · cases e
    exact ⟨rp_non ry, by rw [non_iff rx]; exact G.bl R⟩
  · cases e
theorem g_isNot : Op2 w (fun x y H Q => y = .non ∧ Q (.bl (!decide (x = .non))) H) pIsNot := by
  intro c h H x y z v u Q R rx ry e G
  unfold pIsNot at e
  split at e
  · cases e
    exact ⟨rp_non ry, by rw [non_iff rx]; exact G.bl R⟩
  · cases e
/-! ### == -/
mutual
theorem pdI_ok {c : Cf} {h : AH} {H : Hp} (R : Rel w c h H) : ∀ {d : D} {v : V} {p : PyData}, Rep w c d v → pdI d = some p → Dp w.K H v p
  | .non, v, p, r, e => by simp only [Rep] at r; simp only [pdI, Option.some.injEq] at e; subst r e; exact .non
  | .bl b, v, p, r, e => by simp only [Rep] at r; simp only [pdI, Option.some.injEq] at e; subst r e; exact .bl b
  | .int b, v, p, r, e => by simp only [Rep] at r; simp only [pdI, Option.some.injEq] at e; subst r e; exact .int b
  | .str b, v, p, r, e => by simp only [Rep] at r; simp only [pdI, Option.some.injEq] at e; subst r e; exact .str b
  | .tup ds, v, p, r, e => by
    simp only [Rep] at r
    obtain ⟨a, vs, rfl, t, rl⟩ := r
    simp only [pdI] at e
    split at e
    · rename_i l q
      cases e
      exact .tup (t.sq R.sub) (pdL_ok R rl q)
    · cases e
  | .lst ds, v, p, r, e => by
    simp only [Rep] at r
    obtain ⟨a, vs, rfl, t, rl⟩ := r
    simp only [pdI] at e
    split at e
    · rename_i l q
      cases e
      exact .lst (t.sq R.sub) (pdL_ok R rl q)
    · cases e
  | .fz ds, v, p, r, e => by
    simp only [Rep] at r
    obtain ⟨a, vs, rfl, t, rl⟩ := r
    simp only [pdI] at e
    split at e
    · rename_i l q
      cases e
      exact .lst (t.sq R.sub) (pdL_ok R rl q)
    · cases e
  | .ref _, _, _, _, e => by simp [pdI] at e
  | .con _, _, _, _, e => by simp [pdI] at e
theorem pdL_ok {c : Cf} {h : AH} {H : Hp} (R : Rel w c h H) : ∀ {ds : List D} {vs : List V} {ps : List PyData}, RepL w c ds vs → pdL ds = some ps → DpAll w.K H vs ps
  | [], vs, ps, r, e => by
    simp only [RepL] at r
    simp only [pdL, Option.some.injEq] at e
    subst r e
    exact .nil
  | d :: ds, vs, ps, r, e => by
    simp only [RepL] at r
    obtain ⟨y, ys, rfl, r1, r2⟩ := r
    simp only [pdL] at e
    split at e
    · rename_i x xs q1 q2
      cases e
      exact .cons (pdI_ok R r1 q1) (pdL_ok R r2 q2)
    · cases e
end
theorem pd_ok {c : Cf} {h : AH} {H : Hp} (R : Rel w c h H) {d : D} {v : V} {p : PyData} (r : Rep w c d v) (e : pd h d = some p) : Dp w.K H v p := by
  cases d with
  | ref k =>
    simp only [pd] at e
    split at e
    · rename_i xs q
      split at e
      · rename_i l q2
        cases e
        obtain ⟨a, vs, rfl, sq, rl⟩ := seqL_ok R r (xs := xs) (by simp [seqL, q])
        exact .lst sq (pdL_ok R rl q2)
      · cases e
    · cases e
  | _ => exact pdI_ok R r e
abbrev rEqA (K : PySem.W.Frag) : L2.R2 := fun x y H Q => rEq x y H Q ∨ rEqD K x y H Q
abbrev rNeA (K : PySem.W.Frag) : L2.R2 := fun x y H Q => rNe x y H Q ∨ rNeD K x y H Q
theorem o_eq {X : Cx} {k : Nat} (hr : Rm k X.A) : OpR X (compareOp .Eq) (rEqA X.K) := op_eq.or (op_eqD hr.r.units)
theorem o_ne {X : Cx} {k : Nat} (hr : Rm k X.A) : OpR X (compareOp .NotEq) (rNeA X.K) := op_ne.or (op_neD hr.r.units)
theorem sEq_ok {c : Cf} {x y : D} {v u : V} {b : Bool} (rx : Rep w c x v) (ry : Rep w c y u) (e : sEq x y = some b) : scal v u = true ∧ decide (v = u) = b := by
  cases x <;> cases y <;> simp only [sEq, Option.some.injEq] at e <;> (first | (cases e; done) | skip) <;> simp only [Rep] at rx ry <;> subst rx ry <;> subst e <;> (first | exact ⟨rfl, rfl⟩ | exact ⟨rfl, dec_int⟩ | exact ⟨rfl, dec_bl⟩ | skip)
  case str.str i j =>
    refine ⟨rfl, ?_⟩
    by_cases q : i = j
    · subst q; simp
    · simp [q]
theorem g_eq : Op2 w (rEqA w.K) pEq := by
  intro c h H x y z v u Q R rx ry e G
  unfold pEq pEqB at e
  cases q : sEq x y with
  | some b =>
    rw [q] at e
    cases e
    obtain ⟨h1, h2⟩ := sEq_ok rx ry q
    exact .inl ⟨h1, by rw [h2]; exact G.bl R⟩
  | none =>
    rw [q] at e
    dsimp only at e
    cases q1 : pd h x with
    | none => rw [q1] at e; cases e
    | some a =>
      cases q2 : pd h y with
      | none => rw [q1, q2] at e; cases e
      | some b =>
        rw [q1, q2] at e
        dsimp only at e
        by_cases hs : SeqAt.shaped a = true ∧ SeqAt.shaped b = true
        · rw [if_pos hs] at e
          cases e
          exact .inr ⟨a, b, pd_ok R rx q1, pd_ok R ry q2, hs.1, hs.2, G.bl R⟩
        · rw [if_neg hs] at e
          cases e
theorem g_ne : Op2 w (rNeA w.K) pNe := by
  intro c h H x y z v u Q R rx ry e G
  unfold pNe pEqB at e
  cases q : sEq x y with
  | some b =>
    rw [q] at e
    cases e
    obtain ⟨h1, h2⟩ := sEq_ok rx ry q
    exact .inl ⟨h1, by rw [h2]; exact G.bl R⟩
  | none =>
    rw [q] at e
    dsimp only at e
    cases q1 : pd h x with
    | none => rw [q1] at e; cases e
    | some a =>
      cases q2 : pd h y with
      | none => rw [q1, q2] at e; cases e
      | some b =>
        rw [q1, q2] at e
        dsimp only at e
        by_cases hs : SeqAt.shaped a = true ∧ SeqAt.shaped b = true
        · rw [if_pos hs] at e
          cases e
          exact .inr ⟨a, b, pd_ok R rx q1, pd_ok R ry q2, hs.1, hs.2, G.bl R⟩
        · rw [if_neg hs] at e
          cases e
/-! ### items -/
theorem atI_rep {c : Cf} {xs : List D} {vs : List V} {i : Int} {d : D} (r : RepL w c xs vs) (e : atI xs i = some d) : ∃ v, atI vs i = some v ∧ Rep w c d v := by
  unfold atI at e ⊢
  rw [← r.len]
  cases q : ixN xs.length i with
  | none => rw [q] at e; cases e
  | some j =>
    rw [q] at e
    exact r.get e
theorem g_ix : Op2 w (rIx w.K) pIx := by
  intro c h H x y z v u Q R rx ry e G
  unfold pIx at e
  split at e
  · rename_i i
    have hu := rp_int ry
    subst hu
    split at e
    · obtain ⟨a, vs, rfl, sq, rl⟩ := seqT_ok R rx rfl
      obtain ⟨v, e2, rv⟩ := atI_rep rl e
      exact .inr (.inl ⟨a, vs, i, v, rfl, rfl, sq, e2, G.same R rv⟩)
    · rename_i zz
      split at e
      · rename_i hl
        have hv := rp_str rx
        subst hv
        cases q : atI zz.cps.toList i with
        | none => rw [q] at e; cases e
        | some cc =>
          rw [q] at e
          cases e
          exact .inr (.inr ⟨zz, i, cc, rfl, rfl, size5 hl, q, G.str R⟩)
      · cases e
    · split at e
      · rename_i xs q
        obtain ⟨a, vs, rfl, sq, rl⟩ := seqL_ok R rx q
        obtain ⟨v, e2, rv⟩ := atI_rep rl e
        exact .inl ⟨a, vs, i, v, rfl, rfl, sq, e2, G.same R rv⟩
      · cases e
  · cases e
end
section
variable {X : Cx} {T : Nat → Addr} {W : WX} {a b e : Expr} {es : List Expr} {ma mb : ME} {ms : MA} {pos p : Pos}
theorem r_ix (ha : PE X a (tM (Wd.mk X.K T) W ma)) (hb : PE X b (tM (Wd.mk X.K T) W mb)) (hs : PlainIx b := by intro _ _; rfl) : PE X (.Subscript a b pos) (tM (Wd.mk X.K T) W (eBin pIx ma mb)) :=
  PEi (pe_ix ix_seq ha hb hs) fun σ H Q z => two (f := fun _ x y h2 => optR (pIx h2 x y) h2) z fun c2 s h2 H2 x y v u R2 S2 r1 r2 o => by
    obtain ⟨d, e, G⟩ := optOut o
    exact g_ix c2 h2 H2 x y d v u Q R2 r1 r2 e G
/-! ### built-in functions -/
theorem r_fn {id : String} {x : Str} {r : List V → Hp → VK → Prop} {g : AH → List D → Option D} (hc : CallR X (.builtin id) r) (hr : OpN (Wd.mk X.K T) r g) (hm : X.mg x = none) (hv : bootBuiltins x = some (.builtin id)) (ha : PA X (e :: es) (tA (Wd.mk X.K T) W ms))
    (hg : Gl X x := by rfl) (hn : x ≠ "__name__" := by decide) (hdb : (x == ("__debug__" : Str)) = false := by decide)
    (he : starEach (e :: es) X.env = (false, eval e X.env) :: starEach es X.env := by rfl) (hpl : (backTo pos (starEach es X.env)).any (·.1) = false := by rfl) : PE X (.Call (.Name x p) (e :: es) [] pos) (tM (Wd.mk X.K T) W (eFn g ms)) :=
  PEi (pe_callB hc hg hm hv ha hn hdb he hpl) fun σ H Q z => oneA (f := fun _ xs h1 => optR (g h1 xs) h1) z fun c2 s h2 H2 x v R2 S2 r1 o => by
    obtain ⟨d, e, G⟩ := optOut o
    exact hr c2 h2 H2 x d v Q R2 r1 e G
theorem r_ty {id : String} {x : Str} {r : List V → Hp → VK → Prop} {g : AH → List D → Option D} (hc : CallR X (.type id) r) (hr : OpN (Wd.mk X.K T) r g) (hm : X.mg x = none) (hv : bootBuiltins x = some (.type id)) (ha : PA X (e :: es) (tA (Wd.mk X.K T) W ms))
    (hg : Gl X x := by rfl) (hn : x ≠ "__name__" := by decide) (hdb : (x == ("__debug__" : Str)) = false := by decide)
    (he : starEach (e :: es) X.env = (false, eval e X.env) :: starEach es X.env := by rfl) (hpl : (backTo pos (starEach es X.env)).any (·.1) = false := by rfl) : PE X (.Call (.Name x p) (e :: es) [] pos) (tM (Wd.mk X.K T) W (eFn g ms)) :=
  PEi (pe_callTy hc hg hm hv ha hn hdb he hpl) fun σ H Q z => oneA (f := fun _ xs h1 => optR (g h1 xs) h1) z fun c2 s h2 H2 x v R2 S2 r1 o => by
    obtain ⟨d, e, G⟩ := optOut o
    exact hr c2 h2 H2 x d v Q R2 r1 e G
end
def fAbs (_ : AH) : List D → Option D
  | [.int i] => some (.int (if i < 0 then -i else i))
  | _ => none
def fMax2 (_ : AH) : List D → Option D
  | [.int i, .int j] => some (.int (if j > i then j else i))
  | _ => none
def fMin2 (_ : AH) : List D → Option D
  | [.int i, .int j] => some (.int (if j < i then j else i))
  | _ => none
def fInt (_ : AH) : List D → Option D
  | [.int i] => some (.int i)
  | [.bl k] => some (.int (if k then 1 else 0))
  | _ => none
def fLen (h : AH) : List D → Option D
  | [x] => match seqX h x with
    | some xs => some (.int xs.length)
    | none => match x with
      | .str z => if z.length ≤ 100000 then some (.int z.length) else none
      | _ => none
  | _ => none
section
variable {w : Wd}
theorem rpl0 {c : Cf} {vs : List V} (r : RepL w c [] vs) : vs = [] := by simpa [RepL] using r
theorem rpl1 {c : Cf} {d : D} {vs : List V} (r : RepL w c [d] vs) : ∃ v, vs = [v] ∧ Rep w c d v := by
  simp only [RepL] at r
  obtain ⟨x, xs, rfl, r1, rfl⟩ := r
  exact ⟨x, rfl, r1⟩
theorem rpl2 {c : Cf} {d e : D} {vs : List V} (r : RepL w c [d, e] vs) : ∃ v u, vs = [v, u] ∧ Rep w c d v ∧ Rep w c e u := by
  simp only [RepL] at r
  obtain ⟨x, xs, rfl, r1, y, ys, rfl, r2, rfl⟩ := r
  exact ⟨x, y, rfl, r1, r2⟩
theorem n_abs : OpN w (fun xs H Q => ∃ i, xs = [.int i] ∧ Q (.int (if i < 0 then -i else i)) H) fAbs := by
  intro c h H xs z vs Q R r e G
  unfold fAbs at e
  split at e
  · cases e
    obtain ⟨v, rfl, rv⟩ := rpl1 r
    exact ⟨_, by rw [rp_int rv], G.int R⟩
  · cases e
theorem n_max2 : OpN w (fun xs H Q => ∃ i j, xs = [.int i, .int j] ∧ Q (.int (if j > i then j else i)) H) fMax2 := by
  intro c h H xs z vs Q R r e G
  unfold fMax2 at e
  split at e
  · cases e
    obtain ⟨v, u, rfl, rv, ru⟩ := rpl2 r
    exact ⟨_, _, by rw [rp_int rv, rp_int ru], G.int R⟩
  · cases e
theorem n_min2 : OpN w (fun xs H Q => ∃ i j, xs = [.int i, .int j] ∧ Q (.int (if j < i then j else i)) H) fMin2 := by
  intro c h H xs z vs Q R r e G
  unfold fMin2 at e
  split at e
  · cases e
    obtain ⟨v, u, rfl, rv, ru⟩ := rpl2 r
    exact ⟨_, _, by rw [rp_int rv, rp_int ru], G.int R⟩
  · cases e
theorem n_int : OpN w (fun xs H Q => (∃ i, xs = [.int i] ∧ Q (.int i) H) ∨ ∃ k, xs = [.bl k] ∧ Q (.int (if k then 1 else 0)) H) fInt := by
  intro c h H xs z vs Q R r e G
  unfold fInt at e
  split at e
  · cases e
    obtain ⟨v, rfl, rv⟩ := rpl1 r
    exact .inl ⟨_, by rw [rp_int rv], G.int R⟩
  · cases e
    obtain ⟨v, rfl, rv⟩ := rpl1 r
    exact .inr ⟨_, by rw [rp_bl rv], G.int R⟩
  · cases e
abbrev rLenA (K : PySem.W.Frag) : List V → Hp → VK → Prop := fun xs H Q => (∃ p ys, xs = [.ref p] ∧ (SqL K H p ys ∨ SqT K H p ys) ∧ Q (.int ys.length) H) ∨ ∃ z, xs = [.str z] ∧ z.length ≤ sizeLine ∧ Q (.int z.length) H
theorem c_len {X : Cx} : CallR X (.builtin "len") (rLenA X.K) := call_len_seq.or call_len_str
theorem n_len : OpN w (rLenA w.K) fLen := by
  intro c h H xs z vs Q R r e G
  unfold fLen at e
  split at e
  · obtain ⟨v, rfl, rv⟩ := rpl1 r
    split at e
    · rename_i ys q
      cases e
      unfold seqX at q
      split at q
      · rename_i zs q2
        cases q
        obtain ⟨a, us, rfl, t, rl⟩ := seqT_ok R rv q2
        exact .inl ⟨a, us, rfl, .inr t, by rw [← rl.len]; exact G.int R⟩
      · obtain ⟨a, us, rfl, t, rl⟩ := seqL_ok R rv q
        exact .inl ⟨a, us, rfl, .inl t, by rw [← rl.len]; exact G.int R⟩
    · split at e
      · split at e
        · rename_i hl
          cases e
          exact .inr ⟨_, by rw [rp_str rv], size5 hl, G.int R⟩
        · cases e
      · cases e
  · cases e
end

/-! ### repr -/
/-- a text by the data: what repr tells -/
def fRepr (h : AH) : List D → Option D
  | [x] => match pd h x with
    | some p => if p.showable = true ∧ p.hasDict = false ∧ p.shown.length ≤ 100000 ∧ p.depth ≤ 20 then some (.str p.shown) else none
    | none => none
  | _ => none
theorem depth_le {p : PyData} : p.depth ≤ 20 → p.depth + 1 ≤ 21 := fun h => by omega
def rRepr (K : PySem.W.Frag) : List V → Hp → VK → Prop := fun xs H Q => ∃ v p, xs = [v] ∧ Dp K H v p ∧ p.showable = true ∧ p.hasDict = false ∧ p.shown.length ≤ sizeLine ∧ p.depth ≤ 20 ∧ Q (.str p.shown) H
theorem c_repr {X : Cx} {k : Nat} (hr : Rm k X.A) : CallR X (.builtin "repr") (rRepr X.K) := by
  intro pins s σ H xs us Q I r h
  obtain ⟨v, p, rfl, hd, hs, hn, hz, hdep, q⟩ := h
  obtain ⟨u, rfl, ru⟩ := vals1 r
  obtain ⟨as, rd⟩ := Dp.reads I p v u hd ru
  have hu := hr.r.units
  cases hd with
  | non =>
    cases (show u = Value.none from ru)
    exact PySem.P.repr_of_none ⟨.str _, H, I.tok _, ⟨_, rfl⟩, q⟩
  | bl b =>
    cases (show u = Value.bool b from ru)
    exact PySem.P.repr_of_bool ⟨.str _, H, I.tok _, ⟨_, rfl⟩, q⟩
  | int i =>
    obtain ⟨t, rfl⟩ := (show ∃ t, u = Value.int i t from ru)
    exact PySem.P.repr_of_int (by simpa [PyData.showable] using hs) ⟨.str _, H, I.tok _, ⟨_, rfl⟩, q⟩
  | str x =>
    obtain ⟨t, rfl⟩ := (show ∃ t, u = Value.str x t from ru)
    exact PySem.P.repr_of_str ⟨.str _, H, I.tok _, ⟨_, rfl⟩, q⟩ hz
  | lst sq al =>
    cases ru
    exact repr_of_reads' rd hs (fun z => by rw [hn] at z; cases z) hr.g (by omega) (fun _ _ e => e) (fun h' u tk hk => ⟨.str _, H, I.kept hk, ⟨_, rfl⟩, q⟩) hz
  | tup sq al =>
    cases ru
    exact repr_of_reads' rd hs (fun z => by rw [hn] at z; cases z) hr.g (by omega) (fun _ _ e => e) (fun h' u tk hk => ⟨.str _, H, I.kept hk, ⟨_, rfl⟩, q⟩) hz
theorem n_repr {w : Wd} : OpN w (rRepr w.K) fRepr := by
  intro c h H xs z vs Q R r e G
  unfold fRepr at e
  split at e
  · split at e
    · rename_i p q
      split at e
      · rename_i hc
        cases e
        obtain ⟨v, rfl, rv⟩ := rpl1 r
        exact ⟨v, p, rfl, pd_ok R rv q, hc.1, hc.2.1, size5 hc.2.2.1, hc.2.2.2, G.str R⟩
      · cases e
    · cases e
  · cases e

/-! ### isinstance of a built-in type -/
def tyName (h : AH) : D → Option String
  | .non => some "NoneType"
  | .bl _ => some "bool"
  | .int _ => some "int"
  | .str _ => some "str"
  | .tup _ => some "tuple"
  | .lst _ => some "list"
  | .ref k => match h.g k with
    | some (.lst _) => some "list"
    | some (.dct _) => some "dict"
    | _ => none
  | _ => none
def isiB (t T : String) : Bool := t == T || (t == "bool" && T == "int")
def eIsi (T : String) (a : ME) : ME := fun s h => (a s h).bind fun d h1 => match tyName h1 d with
  | some t => .ok (.bl (isiB t T)) h1
  | none => .st
/-- a built-in type of which we know the answers -/
def IsiOk (T : String) : Prop := ∀ t, t ∈ ["NoneType", "bool", "int", "str", "tuple", "list", "dict"] → kitB t T = some (isiB t T)
theorem isiOk {T : String} (h : (["NoneType", "bool", "int", "str", "tuple", "list", "dict"].all fun t => kitB t T == some (isiB t T)) = true) : IsiOk T := fun t ht => by
  have := List.all_eq_true.mp h t ht
  simpa using this
theorem ii_int : IsiOk "int" := isiOk (by decide +kernel)
theorem ii_bool : IsiOk "bool" := isiOk (by decide +kernel)
theorem ii_str : IsiOk "str" := isiOk (by decide +kernel)
theorem ii_tuple : IsiOk "tuple" := isiOk (by decide +kernel)
theorem ii_list : IsiOk "list" := isiOk (by decide +kernel)
theorem ii_dict : IsiOk "dict" := isiOk (by decide +kernel)
theorem ty_ok {w : Wd} {c : Cf} {h : AH} {H : Hp} (R : Rel w c h H) {d : D} {v : V} {t : String} (r : Rep w c d v) (e : tyName h d = some t) : TyX w.K H v (.type t) ∧ t ∈ ["NoneType", "bool", "int", "str", "tuple", "list", "dict"] := by
  cases d with
  | non => cases e; rw [rp_non r]; exact ⟨.base .non, by decide⟩
  | bl b => cases e; rw [rp_bl r]; exact ⟨.base (.bl b), by decide⟩
  | int b => cases e; rw [rp_int r]; exact ⟨.base (.int b), by decide⟩
  | str b => cases e; rw [rp_str r]; exact ⟨.base (.str b), by decide⟩
  | tup xs =>
    cases e
    simp only [Rep] at r
    obtain ⟨a, vs, rfl, t, _⟩ := r
    rcases t with ⟨(t | ⟨o, t⟩), _⟩ | ((t | ⟨o, t⟩) | ⟨o, its, n, lk, cl, _⟩)
    · exact ⟨.base (.tup (R.sub _ _ t)), by decide⟩
    · exact ⟨.fTuple (R.sub _ _ t), by decide⟩
    · cases t
    · cases t
    · exact ⟨.kTuple lk cl, by decide⟩
  | lst xs =>
    cases e
    simp only [Rep] at r
    obtain ⟨a, vs, rfl, t, _⟩ := r
    exact ⟨.base (.lst (R.sub _ _ t.1)), by decide⟩
  | ref k =>
    simp only [tyName] at e
    simp only [Rep] at r
    obtain ⟨rfl, hk⟩ := r
    split at e
    · rename_i xs q
      cases e
      obtain ⟨u, e1, vs, rfl, _⟩ := R.at_ _ _ q
      exact ⟨.base (.lst (R.sub _ _ e1)), by decide⟩
    · rename_i xs q
      cases e
      obtain ⟨u, e1, vs, rfl, _⟩ := R.at_ _ _ q
      exact ⟨.base (.dK (R.sub _ _ e1)), by decide⟩
    · cases e
  | fz _ => cases e
  | con _ => cases e
section
variable {X : Cx} {T : Nat → Addr} {W : WX} {a b e o i : Expr} {es : List Expr} {ma mb mo mi : ME} {ms : MA} {pos p p2 : Pos}
theorem r_isi {N : Str} {S : String} (hS : IsiOk S) (hm : X.mg "isinstance" = none) (hmN : X.mg N = none) (hvN : bootBuiltins N = some (.type S)) (ha : PE X a (tM (Wd.mk X.K T) W ma)) (hg : Gl X "isinstance" := by rfl) (hgN : Gl X N := by rfl) (hn : N ≠ "__name__" := by decide) (hdb : (N == ("__debug__" : Str)) = false := by decide)
    (h1 : starEach [a, .Name N p2] X.env = (false, eval a X.env) :: starEach [.Name N p2] X.env := by rfl) (h2 : starEach [.Name N p2] X.env = (false, eval (.Name N p2) X.env) :: starEach [] X.env := by rfl)
    (hpl : (backTo pos (starEach [.Name N p2] X.env)).any (·.1) = false := by rfl) :
    PE X (.Call (.Name "isinstance" p) [a, .Name N p2] [] pos) (tM (Wd.mk X.K T) W (eIsi S ma)) :=
  PEi (pe_callB call_isi hg hm (by decide +kernel) (pa_cons ha (pa_cons (pe_bltn (v := .ty S) hgN hmN hvN rfl hn hdb) pa_nil h2) h1) (by decide) (by decide) h1 hpl) fun σ H Q z =>
    one (f := fun _ d h1 => match tyName h1 d with | some t => .ok (.bl (isiB t S)) h1 | none => .st) z fun c2 s h2 H2 x v R2 S2 r1 o => by
      split at o
      · rename_i t et
        obtain ⟨ty, hm⟩ := ty_ok R2 r1 et
        exact ⟨v, .ty S, _, _, isiB t S, rfl, .ty S, ty, kit_ty (hS t hm), o c2 _ H2 R2 (.refl R2.sub) (by simp [Rep])⟩
      · exact o.elim

/-! ### xs[i] = v -/
def setIx (o i v : D) (h : AH) : Option AH := match o, i with
  | .ref k, .int j => match h.g k with
    | some (.lst xs) => match ixN xs.length j with
      | some n => some (h.put k (.lst (xs.set n v)))
      | none => none
    | _ => none
  | _, _ => none
def gIx (o i : ME) : MG := fun v s h => match o s h with
  | .ok x h1 => match i s h1 with
    | .ok y h2 => match setIx x y v h2 with
      | some h3 => some (s, h3)
      | none => none
    | _ => none
  | _ => none
theorem setIx_ok {w : Wd} {c : Cf} {h h3 : AH} {H : Hp} (R : Rel w c h H) {o i d : D} {vo vi v : V} {Q : Hp → Prop} (ro : Rep w c o vo) (ri : Rep w c i vi) (rd : Rep w c d v) (e : setIx o i d h = some h3)
    (q : ∀ c' H', Rel w c' h3 H' → Ext c H c' H' → Q H') : rSetL vo vi v H Q := by
  unfold setIx at e
  split at e
  · rename_i k j
    split at e
    · rename_i xs q1
      split at e
      · rename_i n q2
        cases e
        simp only [Rep] at ro
        obtain ⟨rfl, hk⟩ := ro
        obtain ⟨u, e1, vs, rfl, rl⟩ := R.at_ _ _ q1
        obtain ⟨R', E'⟩ := R.put q1 e1 (o' := .lst (xs.set n d)) (u' := .lst (vs.set n v)) ⟨_, rfl, rl.set rd⟩
        exact ⟨_, vs, j, n, rfl, rp_int ri, R.sub _ _ e1, by rw [← rl.len]; exact q2, q _ _ R' E'⟩
      · cases e
    · cases e
  · cases e
theorem g_ixs (ho : PE X o (tM (Wd.mk X.K T) (fun _ _ _ _ => False) mo)) (hi : PE X i (tM (Wd.mk X.K T) (fun _ _ _ _ => False) mi)) (ha : ∀ v, assign (.Subscript o i pos) X.env v = (do
      let ov ← holding [v] (eval o X.env)
      let iv ← holding [v, ov] (eval i X.env)
      standAt pos
      holding [v, ov, iv] (setItem ov iv v)
      release [v, ov, iv] []) := by intro _; rfl) : PG X (.Subscript o i pos) (tG (Wd.mk X.K T) (gIx mo mi)) :=
  ⟨fun pins s σ H v u Q I r z => (pg_sub ho hi set_list ha).run pins s σ H v u Q I r (by
    obtain ⟨c, sl, h, d, R, S, r1, o1⟩ := z
    simp only [gIx] at o1
    refine ⟨c, sl, h, R, S, ?_⟩
    cases q : mo sl h with
    | ok x h1 =>
      rw [q] at o1
      intro c1 vo H1 R1 E1 ro
      refine ⟨c1, sl, h1, R1, S.ext E1, ?_⟩
      dsimp only at o1
      cases q2 : mi sl h1 with
      | ok y h2 =>
        rw [q2] at o1
        intro c2 vi H2 R2 E2 ri
        dsimp only at o1
        cases q3 : setIx x y d h2 with
        | none => rw [q3] at o1; exact o1.elim
        | some h3 =>
          rw [q3] at o1
          have E12 := E1.trans E2
          exact setIx_ok R2 (ro.ext E2) ri ((r1.ext E1).ext E2) q3 fun c3 H3 R3 E3 => o1 c3 σ H3 R3 (E12.trans E3) ((S.ext E12).ext E3)
      | ex e h' => rw [q2] at o1; exact o1.elim
      | st => rw [q2] at o1; exact o1.elim
    | ex e h' => rw [q] at o1; exact o1.elim
    | st => rw [q] at o1; exact o1.elim)⟩

/-! ### methods of built-in objects -/
/-- what a method does: its value, the heap behind it -/
abbrev PM := AH → D → List D → Option (D × AH)
def eBm (T : String) (g : PM) (o : ME) (a : MA) : ME := fun s h => (o s h).bind fun x h1 => if tyName h1 x = some T then (a s h1).bind fun xs h2 => match g h2 x xs with
    | some (z, h3) => .ok z h3
    | none => .st
  else .st
def OpM (w : Wd) (r : V → List V → Hp → VK → Prop) (g : PM) : Prop := ∀ c h H x xs z h' v vs Q, Rel w c h H → Rep w c x v → RepL w c xs vs → g h x xs = some (z, h') →
  (∀ c' v' H', Rel w c' h' H' → Ext c H c' H' → Rep w c' z v' → Q v' H') → r v vs H Q
def BmOk (T : String) : Prop := T = "str" ∨ T = "list" ∨ T = "dict"
theorem tyV_ok {w : Wd} {c : Cf} {h : AH} {H : Hp} (R : Rel w c h H) {d : D} {v : V} {t : String} (r : Rep w c d v) (e : tyName h d = some t) (ht : BmOk t) : tyV w.K t v H := by
  cases d with
  | non => cases e; exact absurd ht (by unfold BmOk; decide)
  | bl b => cases e; exact absurd ht (by unfold BmOk; decide)
  | int b => cases e; exact absurd ht (by unfold BmOk; decide)
  | str b => cases e; rw [rp_str r]; exact rfl
  | tup xs => cases e; exact absurd ht (by unfold BmOk; decide)
  | lst xs =>
    cases e
    obtain ⟨a, vs, rfl, sq, _⟩ := seqL_ok R r rfl
    exact .inl ⟨rfl, vs, sq⟩
  | ref k =>
    simp only [tyName] at e
    simp only [Rep] at r
    obtain ⟨rfl, hk⟩ := r
    split at e
    · rename_i xs q
      cases e
      obtain ⟨u, e1, vs, rfl, _⟩ := R.at_ _ _ q
      exact .inl ⟨rfl, vs, .of (R.sub _ _ e1)⟩
    · rename_i xs q
      cases e
      obtain ⟨u, e1, vs, rfl, _⟩ := R.at_ _ _ q
      exact .inr (.inr (.inl ⟨rfl, .inl ⟨vs, R.sub _ _ e1⟩⟩))
    · cases e
  | fz _ => cases e
  | con _ => cases e
theorem bm_aux {S : String} {r : V → List V → Hp → VK → Prop} {g : PM} (hS : BmOk S) (hg : OpM (Wd.mk X.K T) r g) {σ : L2.St} {H : Hp} {Q : VK} (z : tM (Wd.mk X.K T) W (eBm S g mo ms) σ H Q) : tBM X.K S r (tM (Wd.mk X.K T) W mo) (tA (Wd.mk X.K T) W ms) σ H Q := by
  obtain ⟨c, s, h, R, Sl, o⟩ := z
  refine ⟨c, s, h, R, Sl, (Out.bind (A := Rep (Wd.mk X.K T)) o).mono ?_⟩
  rintro v H1 ⟨c1, h1, x, R1, E1, r1, o1⟩
  split at o1
  · rename_i ht
    refine ⟨tyV_ok R1 r1 ht hS, c1, s, h1, R1, Sl.ext E1, (Out.bind (A := RepL (Wd.mk X.K T)) o1).mono ?_⟩
    rintro vs H2 ⟨c2, h2, xs, R2, E2, r2, o2⟩
    split at o2
    · rename_i zz h3 e
      exact hg c2 h2 H2 x xs zz h3 v vs Q R2 (r1.ext E2) r2 e o2
    · exact o2.elim
  · exact o1.elim
theorem r_bm {S id : String} {name : Str} {apos : Pos} {r : V → List V → Hp → VK → Prop} {g : PM} (pa : PlainAttrs S) (slot : Slot S name id) (hty : typeOf (.builtin id) = pure (.type "method_descriptor")) (hm : MtR X id r) (hS : BmOk S) (hg : OpM (Wd.mk X.K T) r g) (ho : PE X o (tM (Wd.mk X.K T) W mo)) (ha : PA X (e :: es) (tA (Wd.mk X.K T) W ms))
    (hbase : attributeBase o name X.env (eval o X.env) = eval o X.env := by rfl)
    (hfew : ((backTo pos (starEach (e :: es) X.env)).all (fun x => !x.1) && (backToKw pos (keywordEach [] X.env)).all (fun x => x.1.isSome)
      && decide ((e :: es).length + ([] : List Keyword).length + (if ([] : List Keyword).isEmpty then 0 else 1) < 30)) = true := by rfl)
    (hline : (apos.endLine == pos.line) = true := by rfl) (hs : starEach (e :: es) X.env = (false, eval e X.env) :: starEach es X.env := by rfl) (hplain : (backTo pos (starEach es X.env)).any (·.1) = false := by rfl) :
    PE X (.Call (.Attribute o name apos) (e :: es) [] pos) (tM (Wd.mk X.K T) W (eBm S g mo ms)) :=
  PEi (pe_bm pa slot hty hm ho ha hbase hfew hline hs hplain) fun σ H Q z => bm_aux hS hg z
theorem r_bm0 {S id : String} {name : Str} {apos : Pos} {r : V → List V → Hp → VK → Prop} {g : PM} (pa : PlainAttrs S) (slot : Slot S name id) (hty : typeOf (.builtin id) = pure (.type "method_descriptor")) (hm : MtR X id r) (hS : BmOk S) (hg : OpM (Wd.mk X.K T) r g) (ho : PE X o (tM (Wd.mk X.K T) W mo))
    (hbase : attributeBase o name X.env (eval o X.env) = eval o X.env := by rfl) (hline : (apos.endLine == pos.line) = true := by rfl) :
    PE X (.Call (.Attribute o name apos) [] [] pos) (tM (Wd.mk X.K T) W (eBm S g mo aNil)) :=
  PEi (pe_bm0 pa slot hty hm ho hbase hline) fun σ H Q z => by
    obtain ⟨c, s, h, R, Sl, o⟩ := z
    refine ⟨c, s, h, R, Sl, (Out.bind (A := Rep (Wd.mk X.K T)) o).mono ?_⟩
    rintro v H1 ⟨c1, h1, x, R1, E1, r1, o1⟩
    split at o1
    · rename_i ht
      refine ⟨tyV_ok R1 r1 ht hS, ?_⟩
      simp only [aNil, Res.bind] at o1
      split at o1
      · rename_i zz h3 e
        exact hg c1 h1 H1 x [] zz h3 v [] Q R1 r1 .nil e o1
      · exact o1.elim
    · exact o1.elim
end
def mAppend : PM := fun h x xs => match x, xs with
  | .ref k, [y] => match h.g k with
    | some (.lst ds) => if ds.length < 100000 then some (.non, h.put k (.lst (ds ++ [y]))) else none
    | _ => none
  | _, _ => none
theorem m_append {w : Wd} : OpM w rAppend mAppend := by
  intro c h H x xs z h' v vs Q R rx rs e q
  unfold mAppend at e
  split at e
  · rename_i k y
    split at e
    · rename_i ds e1
      split at e
      · rename_i hl
        cases e
        obtain ⟨u, rfl, ru⟩ := rpl1 rs
        simp only [Rep] at rx
        obtain ⟨rfl, hk⟩ := rx
        obtain ⟨o, e2, us, rfl, rl⟩ := R.at_ _ _ e1
        obtain ⟨R', E'⟩ := R.put e1 e2 (o' := .lst (ds ++ [y])) (u' := .lst (us ++ [u])) ⟨_, rfl, rl.append (.cons ru .nil)⟩
        exact ⟨_, us, u, rfl, rfl, R.sub _ _ e2, Nat.lt_of_lt_of_le (by rw [← rl.len]; exact hl) (size5 (Nat.le_refl _)), q _ _ _ R' E' (by simp [Rep])⟩
      · cases e
    · cases e
  · cases e
end MP
set_option Elab.async false
set_option linter.all false
set_option maxRecDepth 100000
set_option maxHeartbeats 4000000
/-! mirrors: the law's call -/
namespace MP
open PySem PySem.Spec L2
open PyProof.Rows hiding St

section
variable {X : Cx} {T : Nat → Addr} {W : WX} {e : Expr} {kws : List Keyword} {ma : ME} {ms : MA} {kpos : Pos} {nm : Option Str}
theorem k_nil : PK X [] (tA (Wd.mk X.K T) W aNil) := PKi pk_nil fun σ H Q ⟨c, s, h, R, S, o⟩ => o c [] H R (.refl R.sub) .nil
theorem k_cons (ha : PE X e (tM (Wd.mk X.K T) W ma)) (hr : PK X kws (tA (Wd.mk X.K T) W ms)) : PK X (⟨nm, e, kpos⟩ :: kws) (tA (Wd.mk X.K T) W (aCons ma ms)) :=
  PKi (pk_cons ha hr) fun σ H Q z => by
    obtain ⟨c, s, h, R, S, o⟩ := z
    refine ⟨c, s, h, R, S, (Out.bind (A := Rep (Wd.mk X.K T)) o).mono ?_⟩
    rintro v H1 ⟨c1, h1, x, R1, E1, r1, o1⟩
    refine ⟨c1, s, h1, R1, S.ext E1, (Out.bind (A := RepL (Wd.mk X.K T)) o1).mono ?_⟩
    rintro vs H2 ⟨c2, h2, xs, R2, E2, r2, o2⟩
    exact o2 c2 (v :: vs) H2 R2 (.refl R2.sub) (.cons (r1.ext E2) r2)
end
theorem rc_int {w : Wd} (i : Int) (c : Cf) : Rep w c (.int i) (.int i) := by simp [Rep]
theorem rc_str {w : Wd} (i : Str) (c : Cf) : Rep w c (.str i) (.str i) := by simp [Rep]
theorem rc_bl {w : Wd} (i : Bool) (c : Cf) : Rep w c (.bl i) (.bl i) := by simp [Rep]
theorem rc_non {w : Wd} (c : Cf) : Rep w c .non .non := by simp [Rep]
theorem rl0 {w : Wd} (c : Cf) : RepL w c [] [] := .nil
theorem rl_cons {w : Wd} {d : D} {v : V} {ds : List D} {vs : List V} (h : ∀ c, Rep w c d v) (hs : ∀ c, RepL w c ds vs) (c : Cf) : RepL w c (d :: ds) (v :: vs) := .cons (h c) (hs c)
theorem glob_int {X : Cx} {T : Nat → Addr} {W : WX} {x : Str} {i : Int} {pos : Pos} (hm : ∃ t, X.mg x = some (.int i t)) (hg : Gl X x := by rfl) (hd : (x == ("__debug__" : Str)) = false := by decide) : PE X (.Name x pos) (tM ⟨X.K, T⟩ W (eC (.int i))) := by
  obtain ⟨t, hm⟩ := hm
  exact r_glob (v := .int i) hm (rc_int i) ⟨t, rfl⟩ hg hd
theorem glob_str {X : Cx} {T : Nat → Addr} {W : WX} {x i : Str} {pos : Pos} (hm : ∃ t, X.mg x = some (.str i t)) (hg : Gl X x := by rfl) (hd : (x == ("__debug__" : Str)) = false := by decide) : PE X (.Name x pos) (tM ⟨X.K, T⟩ W (eC (.str i))) := by
  obtain ⟨t, hm⟩ := hm
  exact r_glob (v := .str i) hm (rc_str i) ⟨t, rfl⟩ hg hd

/-- the heap of the mirrors ahead of the law: nothing -/
def ah0 : AH := ⟨0, fun _ => none⟩
/-- where the script alone is told of -/
def cf0 (H : Hp) : Cf := ⟨0, fun _ => 0, H⟩
theorem rel0 (w : Wd) (H : Hp) : Rel w (cf0 H) ah0 H :=
  ⟨rfl, fun _ _ => rfl, fun k hk => absurd hk (Nat.not_lt_zero k), fun j k hj => absurd hj (Nat.not_lt_zero j), fun k o e => (nomatch e), fun _ _ e => e⟩
theorem ints_rep {w : Wd} {c : Cf} : ∀ ns : List Int, RepL w c (ns.map D.int) (ns.map V.int)
  | [] => .nil
  | n :: ns => .cons (rc_int n c) (ints_rep ns)
theorem script_rep {w : Wd} {H : Hp} {a : Addr} {ns : List Int} (h : SqL w.K H a (ns.map V.int)) : Rep w (cf0 H) (.fz (ns.map .int)) (.ref a) := by
  simp only [Rep]
  refine ⟨a, _, rfl, ?_, ints_rep ns⟩
  rcases h with h | h
  · exact .inl ⟨h, fun k hk => absurd hk (Nat.not_lt_zero k)⟩
  · exact .inr (.inr h)
/-- the law's mirror is True -/
def LawTrue (m : MF) : Prop := ∀ ns : List Int, ns.length ≤ 63 → ∃ h, m [.fz (ns.map .int)] ah0 = .ok (.bl true) h

theorem run_law {P : Program} {w : World} {K : PySem.W.Frag} {T : Nat → Addr} {mg mb : Str → Option Value} {k : Nat} {fa a : Addr} {fd : FuncData} {x : Str} {m : MF} {s₁ : Shared} {vs : List Value} {ns : List Int}
    (KX : K.In s₁.heap) (hns : s₁.heap.Ns mainGlobals mg) (hb : s₁.heap.Ns builtinsNs mb) (hbb : ∀ x : Str, x ≠ "__name__" → mb x = bootBuiltins x) (hlim : s₁.heap.NoLimit) (hg : s₁.gens = #[])
    (ha : s₁.heap.get? a = some { cls := .type "list", data := .seq vs.toArray }) (hi : IntsAre vs ns) (hl : ns.length ≤ 63) (hr : Rm k callerA)
    (F : ∀ base : Heap, K.In base → base.Ns mainGlobals mg → Fn P w K T mg base k fa fd [x] m) (hbind : ∀ (s : Shared) (u : Value), BindsTo s fd ⟨[u], []⟩ [(x, u)]) (hm : LawTrue m) :
    codeAny (model P w) callerA (.call (.ref fa) ⟨[.ref a], []⟩) (fun r s' => r = .ok (.ret (.bool true)) ∧ OldK s₁.heap s'.heap ∧ s'.os = s₁.os ∧ AllBare s'.gens) s₁ := by
  have rv := vals_ints hi
  have hl2 : ns.length ≤ sizeLine := Nat.le_trans hl (by rw [sizeLine_eq]; decide)
  -- the abstract heap: the script, where it isn't the top's own
  have go : ∀ H : Hp, SqL K H a (ns.map V.int) → HOk P w H s₁.heap → (∀ b, H b ≠ none → b = a ∧ K.lookup a = none ∧ H b = some (.frz { cls := .type "list", data := .seq vs.toArray } (.lst (ns.map V.int)))) →
      codeAny (model P w) callerA (.call (.ref fa) ⟨[.ref a], []⟩) (fun r s' => r = .ok (.ret (.bool true)) ∧ OldK s₁.heap s'.heap ∧ s'.os = s₁.os ∧ AllBare s'.gens) s₁ := by
    intro H hS hok hA
    have off : ∀ b, b ≠ a → H b = none := fun b hb => Classical.byContradiction fun z => hb (hA b z).1
    have dict : ∀ {b : Addr} {mm : Str → Option Value}, s₁.heap.Ns b mm → (hidT s₁.heap H).Ns b mm := by
      rintro b mm ⟨o, es, ep, e, d, r⟩
      refine ⟨o, es, ep, hidT_get e (off b fun z => ?_), d, r⟩
      rw [z, ha] at e
      cases e
      cases d
    have hKb : K.In (hidT s₁.heap H) := fun b o e => hidT_get (KX b o e) (Classical.byContradiction fun z => by
      obtain ⟨e1, e2, _⟩ := hA b z
      rw [e1, e2] at e
      cases e)
    have e0 : Env0 P w K mg (hidT s₁.heap H) callerA [] s₁ H :=
      ⟨rfl, ⟨hKb, dict hns, ⟨mb, dict hb, hbb⟩, hlim.elim fun mc hc => ⟨mc, dict hc.1, hc.2⟩⟩, fun b o e => of_hidT e, Nat.le_of_eq (hidT_size _ _), trivial, fun b hb => (nomatch hb), hok, .of_eq hg⟩
    obtain ⟨hh, eh⟩ := hm ns hl
    have sp : spM ⟨K, T⟩ m [.ref a] H (fun v _ => v = .bl true) fun _ _ _ => False := by
      refine ⟨cf0 H, [.fz (ns.map .int)], ah0, rel0 _ H, .cons (script_rep hS) .nil, ?_⟩
      rw [eh]
      intro c' v H' _ _ r
      exact rp_bl r
    refine codeAny_mono ((F _ hKb (dict hns)).run callerA [] s₁ H ⟨[.ref a], []⟩ [.ref a] [.ref a] _ _ hr e0 (hbind s₁ (.ref a)) (.cons rfl .nil) sp) fun r s' h => ?_
    cases r with
    | error e =>
      obtain ⟨_, _, _, _, _, _, _, _, _, _, _, _, z⟩ := h
      exact z.elim
    | ok fl =>
      cases fl with
      | ret u =>
        obtain ⟨v, H', os, bare, un, hok', ru, rfl⟩ := h
        cases (show u = Value.bool true from ru)
        refine ⟨rfl, OldK.of_keep fun b o e => ?_, os, bare⟩
        cases q : H b with
        | none => exact un.keep b o e q (fun z => (nomatch z)) (fun z => (nomatch z))
        | some y =>
          obtain ⟨_, _, eb⟩ := hA b (by rw [q]; exact nofun)
          have o1 := (hok b _ eb).1
          have o2 := (hok' b _ (un.frzs b _ _ eb)).1
          rw [e] at o1
          cases o1
          exact o2
      | next => exact False.elim h
      | brk => exact False.elim h
      | cont => exact False.elim h
  cases hk : K.lookup a with
  | some o =>
    have e := KX a o hk
    rw [ha] at e
    cases e
    exact go (fun _ => none) (.inr ⟨_, vs.toArray, _, hk, rfl, rfl, rfl, by rw [List.size_toArray, hi.length]; exact hl2, by simpa using rv⟩) (fun b u z => (nomatch z)) fun b z => absurd rfl z
  | none =>
    refine go (fun b => if b = a then some (.frz { cls := .type "list", data := .seq vs.toArray } (.lst (ns.map V.int))) else none) (.inl (.inr ⟨_, if_pos rfl⟩)) (fun b u z => ?_) fun b z => ?_
    · have z : (if b = a then some _ else none) = some u := z
      by_cases hb : b = a
      · subst hb
        rw [if_pos rfl] at z
        cases z
        exact ⟨ha, by rw [List.length_map]; exact hl2, vs, _, rv, ha⟩
      · rw [if_neg hb] at z
        cases z
    · by_cases hb : b = a
      · exact ⟨hb, hk, if_pos hb⟩
      · exact absurd (if_neg hb) z
/-- the law's row, from its mirror -/
theorem walk_law {l : PySem.W.OpenLaw} {k : Nat} {q : Program} {loose : List Str} {XP : (Str → Option Value) → Heap → Prop} {YP : World → Heap → Prop} {d : DefRec} {x : Str} {m : MF}
    (hn : l.most = some 63) (hdf : d.params.defaults = []) (hr : Rm k callerA)
    (F : ∀ (w : World) (mg : Str → Option Value) (fa : Addr) (h : Heap), YP w h → h.Ns mainGlobals mg → mg d.name = some (.ref fa) →
      ∃ (K : PySem.W.Frag) (T : Nat → Addr) (fd : FuncData), K.In h ∧ (∀ (s : Shared) (u : Value), BindsTo s fd ⟨[u], []⟩ [(x, u)]) ∧ ∀ base : Heap, K.In base → base.Ns mainGlobals mg → Fn l.prog w K T mg base k fa fd [x] m)
    (hm : LawTrue m) : PySem.W.WalkO q loose XP YP l.row.toRowW d [] (fun f vs => PySem.call f vs) := by
  refine Att.attach_call hn hdf fun w s₀ s₁ mg mb fa o pm cd doc a vs ns G Y ho hd hcd hmg hobj hints hlen hg => ?_
  obtain ⟨K, T, fd, KX, hb, hF⟩ := F w mg fa _ Y G.T.g hmg
  exact run_law KX G.T.g G.T.b G.T.builtins G.T.nolimit hg hobj hints hlen hr hF hb hm
end MP
set_option Elab.async false
set_option linter.all false
set_option maxRecDepth 100000
/-! mirrors: how they are reckoned with -/
namespace MP
open PySem PySem.Spec L2

theorem AH.put_g (h : AH) (i : Nat) (o : AO) (k : Nat) : (h.put i o).g k = if k = i then some o else h.g k := rfl
theorem AH.put_n (h : AH) (i : Nat) (o : AO) : (h.put i o).n = h.n := rfl
theorem AH.new_g (h : AH) (o : AO) (k : Nat) : (h.new o).g k = if k = h.n then some o else h.g k := rfl
theorem AH.new_n (h : AH) (o : AO) : (h.new o).n = h.n + 1 := rfl
theorem AH.put_same (h : AH) (i : Nat) (o : AO) : (h.put i o).g i = some o := by rw [AH.put_g, if_pos rfl]
theorem AH.new_same (h : AH) (o : AO) : (h.new o).g h.n = some o := by rw [AH.new_g, if_pos rfl]
theorem AH.put_ne {h : AH} {i k : Nat} {o : AO} (e : k ≠ i) : (h.put i o).g k = h.g k := by rw [AH.put_g, if_neg e]
theorem AH.new_ne {h : AH} {k : Nat} {o : AO} (e : k ≠ h.n) : (h.new o).g k = h.g k := by rw [AH.new_g, if_neg e]
theorem AH.put_put (h : AH) (i : Nat) (o o' : AO) : (h.put i o).put i o' = h.put i o' := by
  unfold AH.put
  congr 1
  funext k
  by_cases e : k = i
  · simp [e]
  · simp [e]
theorem AH.new_put (h : AH) (o o' : AO) : (h.new o).put h.n o' = h.new o' := by
  unfold AH.put AH.new
  congr 1
  funext k
  by_cases e : k = h.n
  · simp [e]
  · simp [e]
/-- nothing lies behind the last one -/
def AH.wf (h : AH) : Prop := ∀ k, h.n ≤ k → h.g k = none
theorem AH.wf.lt {h : AH} (w : h.wf) {k : Nat} {o : AO} (e : h.g k = some o) : k < h.n := Nat.lt_of_not_le fun z => by rw [w k z] at e; cases e
theorem AH.wf.put {h : AH} (w : h.wf) {k : Nat} {o o' : AO} (e : h.g k = some o) : (h.put k o').wf := fun j hj => by
  have := w.lt e
  rw [AH.put_ne (by rw [AH.put_n] at hj; omega)]
  exact w j hj
theorem AH.wf.new {h : AH} (w : h.wf) (o : AO) : (h.new o).wf := fun j hj => by
  rw [AH.new_n] at hj
  rw [AH.new_ne (by omega)]
  exact w j (by omega)
theorem ah0_wf : (⟨0, fun _ => none⟩ : AH).wf := fun _ _ => rfl

/-- all but b is as it was -/
structure But (b : Nat) (h h' : AH) : Prop where
  n : h'.n = h.n
  g : ∀ k, k ≠ b → h'.g k = h.g k
theorem But.refl {b : Nat} {h : AH} : But b h h := ⟨rfl, fun _ _ => rfl⟩
theorem But.trans {b : Nat} {h h1 h2 : AH} (a : But b h h1) (c : But b h1 h2) : But b h h2 := ⟨c.n.trans a.n, fun k e => (c.g k e).trans (a.g k e)⟩
theorem But.put {b : Nat} {h : AH} {o : AO} : But b h (h.put b o) := ⟨rfl, fun _ e => AH.put_ne e⟩
theorem But.wf {b : Nat} {h h' : AH} (a : But b h h') (w : h.wf) {o : AO} (e : h.g b = some o) : h'.wf := fun k hk => by
  have := w.lt e
  rw [a.n] at hk
  rw [a.g k (by omega)]
  exact w k hk
/-- the heap has grown, what stood stands, but for what may change -/
structure Grows (c : Nat → Prop) (h h' : AH) : Prop where
  n : h.n ≤ h'.n
  g : ∀ k, k < h.n → ¬ c k → h'.g k = h.g k
theorem Grows.refl {c : Nat → Prop} {h : AH} : Grows c h h := ⟨Nat.le_refl _, fun _ _ _ => rfl⟩
theorem Grows.trans {c : Nat → Prop} {h h1 h2 : AH} (a : Grows c h h1) (b : Grows c h1 h2) : Grows c h h2 :=
  ⟨Nat.le_trans a.n b.n, fun k hk e => (b.g k (Nat.lt_of_lt_of_le hk a.n) e).trans (a.g k hk e)⟩
theorem But.grows {b : Nat} {c : Nat → Prop} {h h' : AH} (a : But b h h') (hb : c b) : Grows c h h' := ⟨Nat.le_of_eq a.n.symm, fun k _ e => a.g k fun z => e (z ▸ hb)⟩
theorem Grows.new {c : Nat → Prop} {h : AH} {o : AO} : Grows c h (h.new o) := ⟨Nat.le_succ _, fun k hk _ => AH.new_ne (Nat.ne_of_lt hk)⟩
theorem Grows.put {c : Nat → Prop} {h : AH} {i : Nat} {o : AO} (hi : c i) : Grows c h (h.put i o) := ⟨Nat.le_refl _, fun k _ e => AH.put_ne fun z => e (z ▸ hi)⟩

/-- an index known to lie in a list of four, of three, .. -/
theorem atI_0 {α : Type} (a : α) (l : List α) : atI (a :: l) 0 = some a := atI_nat (j := 0) rfl
theorem atI_get {α : Type} {l : List α} {i : Nat} {a : α} (h : l[i]? = some a) : atI l (i : Int) = some a := atI_nat h

/-- a for loop that goes to its end -/
theorem forL_all {ok : AH → Bool} {g : MG} {b : MS} (P : Nat → Sl → AH → Prop) (hok : ∀ i s h, P i s h → ok h = true) :
    ∀ (xs : List D) (i : Nat) (s : Sl) (h : AH), P i s h → (∀ j x s h, xs[j]? = some x → P (i + j) s h → ∃ s1 h1 s2 h2, g x s h = some (s1, h1) ∧ (b s1 h1 = .nx s2 h2 ∨ b s1 h1 = .ct s2 h2) ∧ P (i + j + 1) s2 h2) →
      ∃ s' h', forL ok g b xs s h = .nx s' h' ∧ P (i + xs.length) s' h'
  | [], i, s, h, p, _ => ⟨s, h, by simp [forL, hok i s h p], p⟩
  | x :: xs, i, s, h, p, st => by
    obtain ⟨s1, h1, s2, h2, e1, e2, p2⟩ := st 0 x s h rfl p
    obtain ⟨s', h', e, q⟩ := forL_all P hok xs (i + 1) s2 h2 p2 (fun j y s h hy hp => by
      have := st (j + 1) y s h (by simpa using hy) (by rw [show i + (j + 1) = i + 1 + j by omega]; exact hp)
      rw [show i + (j + 1) + 1 = i + 1 + j + 1 by omega] at this
      exact this)
    refine ⟨s', h', ?_, by rw [List.length_cons, show i + (xs.length + 1) = i + 1 + xs.length by omega]; exact q⟩
    simp only [forL, hok i s h p, if_pos rfl, e1]
    rcases e2 with e2 | e2 <;> (rw [e2]; exact e)
theorem rng_len (lo hi : Int) : (rng lo hi).length = (hi - lo).toNat := by simp [rng]
theorem rng_get {lo hi : Int} {j : Nat} {x : D} (h : (rng lo hi)[j]? = some x) : x = .int (lo + (j : Nat)) ∧ (j : Int) < hi - lo := by
  have hj : j < (hi - lo).toNat := by
    rw [← rng_len lo hi]
    exact (List.getElem?_eq_some_iff.mp h).1
  simp only [rng, List.getElem?_map, List.getElem?_range hj, Option.map_some, Option.some.injEq] at h
  exact ⟨h.symm, by omega⟩
/-- a for loop over a range -/
theorem forR {g : MG} {b : MS} {lo hi : Int} (P : Int → Sl → AH → Prop) {s : Sl} {h : AH} (hl : lo ≤ hi) (p : P lo s h)
    (st : ∀ i s h, lo ≤ i → i < hi → P i s h → ∃ s1 h1 s2 h2, g (.int i) s h = some (s1, h1) ∧ (b s1 h1 = .nx s2 h2 ∨ b s1 h1 = .ct s2 h2) ∧ P (i + 1) s2 h2) :
    ∃ s' h', forL (fun _ => true) g b (rng lo hi) s h = .nx s' h' ∧ P hi s' h' := by
  obtain ⟨s', h', e, q⟩ := forL_all (ok := fun _ => true) (g := g) (b := b) (fun j s h => P (lo + (j : Nat)) s h) (fun _ _ _ _ => rfl) (rng lo hi) 0 s h (by simpa using p) (fun j x s h hx hp => by
    obtain ⟨rfl, hj⟩ := rng_get hx
    rw [Nat.zero_add] at hp
    obtain ⟨s1, h1, s2, h2, e1, e2, p2⟩ := st _ s h (by omega) (by omega) hp
    exact ⟨s1, h1, s2, h2, e1, e2, by rw [Nat.zero_add]; push_cast; rw [← Int.add_assoc]; exact p2⟩)
  refine ⟨s', h', e, ?_⟩
  rw [Nat.zero_add, rng_len] at q
  rw [show lo + ((hi - lo).toNat : Nat) = hi by omega] at q
  exact q

theorem ixN_0 (n : Nat) : ixN (n + 1) 0 = some 0 := by rw [ixN, if_pos (by omega), if_pos (by omega)]; rfl
theorem ixN_1 (n : Nat) : ixN (n + 2) 1 = some 1 := by rw [ixN, if_pos (by omega), if_pos (by omega)]; rfl
theorem ixN_2 (n : Nat) : ixN (n + 3) 2 = some 2 := by rw [ixN, if_pos (by omega), if_pos (by omega)]; rfl
theorem ixN_3 (n : Nat) : ixN (n + 4) 3 = some 3 := by rw [ixN, if_pos (by omega), if_pos (by omega)]; rfl
theorem ixN_4 (n : Nat) : ixN (n + 5) 4 = some 4 := by rw [ixN, if_pos (by omega), if_pos (by omega)]; rfl
theorem ixN_5 (n : Nat) : ixN (n + 6) 5 = some 5 := by rw [ixN, if_pos (by omega), if_pos (by omega)]; rfl
theorem ixN_6 (n : Nat) : ixN (n + 7) 6 = some 6 := by rw [ixN, if_pos (by omega), if_pos (by omega)]; rfl
theorem ixN_7 (n : Nat) : ixN (n + 8) 7 = some 7 := by rw [ixN, if_pos (by omega), if_pos (by omega)]; rfl
theorem ixN_8 (n : Nat) : ixN (n + 9) 8 = some 8 := by rw [ixN, if_pos (by omega), if_pos (by omega)]; rfl
theorem ixN_9 (n : Nat) : ixN (n + 10) 9 = some 9 := by rw [ixN, if_pos (by omega), if_pos (by omega)]; rfl
theorem ixN_10 (n : Nat) : ixN (n + 11) 10 = some 10 := by rw [ixN, if_pos (by omega), if_pos (by omega)]; rfl
theorem ixN_11 (n : Nat) : ixN (n + 12) 11 = some 11 := by rw [ixN, if_pos (by omega), if_pos (by omega)]; rfl
theorem ixN_12 (n : Nat) : ixN (n + 13) 12 = some 12 := by rw [ixN, if_pos (by omega), if_pos (by omega)]; rfl
theorem ixN_13 (n : Nat) : ixN (n + 14) 13 = some 13 := by rw [ixN, if_pos (by omega), if_pos (by omega)]; rfl
theorem ixN_m1 (n : Nat) : ixN (n + 1) (-1) = some n := by rw [ixN, if_neg (by omega), if_pos (by omega)]; congr 1; omega
theorem ixN_nat {n j : Nat} (h : j < n) : ixN n (j : Int) = some j := by simp [ixN, h]
theorem isi_ii : isiB "int" "int" = true := by decide
theorem isi_ib : isiB "int" "bool" = false := by decide
theorem isi_bi : isiB "bool" "int" = true := by decide
theorem isi_bb : isiB "bool" "bool" = true := by decide
theorem isi_ni : isiB "NoneType" "int" = false := by decide
theorem isi_si : isiB "str" "int" = false := by decide
theorem isi_ti : isiB "tuple" "int" = false := by decide
theorem isi_li : isiB "list" "int" = false := by decide
theorem isi_ss : isiB "str" "str" = true := by decide
theorem isi_is : isiB "int" "str" = false := by decide
theorem isi_tt : isiB "tuple" "tuple" = true := by decide
theorem ne_true_f : (false = true) = False := by simp
end MP
set_option Elab.async false
set_option linter.all false
set_option maxRecDepth 100000
set_option maxHeartbeats 4000000
/-! mirrors: the bag of numbers that the laws draw from -/
namespace MP
open PySem PySem.Spec L2
def f_take : MF := fnM 2 7 (sSeq (sIf (tstB (eBin pGt (eBin pIx (eVar 0) (eC (.int 0))) (eC (.int 0)))) (sSeq (sSet 2 (eBin pMod (eBin pIx (eVar 0) (eC (.int 0))) (eVar 1))) (sSeq (sAsg (eBin pDiv (eBin pIx (eVar 0) (eC (.int 0))) (eVar 1)) (gIx (eVar 0) (eC (.int 0)))) (sRet (eVar 2)))) (sNil)) (sSeq (sSet 3 (eTup (aCons (eC (.int 2147483647)) (aCons (eC (.int 2147483629)) (aCons (eC (.int 2147483587)) (aCons (eC (.int 2147483579)) (aCons (eC (.int 2147483563)) (aCons (eC (.int 2147483549)) (aCons (eC (.int 2147483543)) (aCons (eC (.int 2147483497)) (aNil))))))))))) (sSeq (sAsg (eBin pAdd (eBin pIx (eVar 0) (eC (.int 2))) (eC (.int 1))) (gIx (eVar 0) (eC (.int 2)))) (sSeq (sSet 4 (eBin pIx (eVar 0) (eC (.int 2)))) (sSeq (sSet 5 (eBin pAdd (eBin pMul (eBin pAdd (eBin pIx (eVar 0) (eC (.int 1))) (eC (.int 1))) (eBin pAdd (eBin pMul (eC (.int 2)) (eVar 4)) (eC (.int 3)))) (eBin pMul (eBin pMul (eC (.int 6007)) (eVar 4)) (eVar 4)))) (sSeq (sSet 6 (eBin pMod (eBin pPow (eVar 5) (eC (.int 3))) (eBin pIx (eVar 3) (eBin pMod (eVar 4) (eC (.int 8)))))) (sRet (eBin pMod (eBin pDiv (eBin pMod (eBin pMul (eVar 6) (eBin pAdd (eBin pDiv (eVar 6) (eC (.int 8192))) (eC (.int 11)))) (eBin pIx (eVar 3) (eBin pMod (eBin pAdd (eVar 4) (eC (.int 3))) (eC (.int 8))))) (eC (.int 32))) (eVar 1)))))))))
def f_bagA : MF := fnM 2 3 (sSeq (sSet 2 (eBin pAdd (eBin pMul (eC (.int 5081)) (eVar 1)) (eC (.int 3)))) (sSeq (sIf (tstB (eBin pLt (eVar 1) (eFn fLen (aCons (eVar 0) (aNil))))) (sSet 2 (eBin pIx (eVar 0) (eVar 1))) (sNil)) (sRet (eLstN (aCons (eBin pMul (eFn fAbs (aCons (eVar 2) (aNil))) (eFn fInt (aCons (eBin pGe (eFn fAbs (aCons (eVar 2) (aNil))) (eBin pPow (eC (.int 10)) (eC (.int 18)))) (aNil)))) (aCons (eBin pAdd (eBin pMod (eVar 2) (eC (.int 2147483587))) (eBin pMul (eC (.int 40009)) (eVar 1))) (aCons (eC (.int 0)) (aNil))))))))
def f_bagB : MF := fnM 2 3 (sSeq (sSet 2 (eBin pAdd (eBin pMul (eC (.int 5081)) (eVar 1)) (eC (.int 3)))) (sSeq (sIf (tstB (eBin pLt (eVar 1) (eFn fLen (aCons (eVar 0) (aNil))))) (sSet 2 (eBin pIx (eVar 0) (eVar 1))) (sNil)) (sRet (eLstN (aCons (eBin pMul (eFn fAbs (aCons (eVar 2) (aNil))) (eFn fInt (aCons (eBin pGe (eFn fAbs (aCons (eVar 2) (aNil))) (eBin pPow (eC (.int 10)) (eC (.int 18)))) (aNil)))) (aCons (eBin pAdd (eBin pMod (eVar 2) (eC (.int 1000000000000000003))) (eBin pMul (eC (.int 40009)) (eVar 1))) (aCons (eC (.int 0)) (aNil))))))))

theorem pMul_ok {h : AH} {i j : Int} (c : (-18446744073709551616 < i ∧ i < 18446744073709551616) ∨ (-18446744073709551616 < j ∧ j < 18446744073709551616)) : pMul h (.int i) (.int j) = some (.int (i * j)) := by
  unfold pMul
  dsimp only
  rw [if_pos (by simpa using c)]
theorem pDiv_ok {h : AH} {i j : Int} (c : 0 < j ∧ j < 2 ^ 200) : pDiv h (.int i) (.int j) = some (.int (i / j)) := by
  unfold pDiv
  dsimp only
  rw [if_pos c]
theorem pMod_ok {h : AH} {i j : Int} (c : 0 < j) : pMod h (.int i) (.int j) = some (.int (i % j)) := by
  unfold pMod
  dsimp only
  rw [if_pos c]
theorem pPow_ok {h : AH} {i j : Int} (c : 0 ≤ j ∧ j ≤ 1000) (d : i.natAbs < 2 ^ 200) : pPow h (.int i) (.int j) = some (.int (i ^ j.toNat)) := by
  unfold pPow
  dsimp only
  rw [if_pos ⟨c.1, c.2, d⟩]
/-- the bag of numbers at b: so many were mixed at most -/
def Bag (h : AH) (b : Nat) (k : Int) : Prop := ∃ x y z : Int, h.g b = some (.lst [.int x, .int y, .int z]) ∧ 0 ≤ x ∧ 0 ≤ y ∧ y < 2305843009213693952 ∧ 0 ≤ z ∧ z ≤ k
theorem Bag.mono {h : AH} {b : Nat} {k k' : Int} (B : Bag h b k) (e : k ≤ k') : Bag h b k' := by
  obtain ⟨x, y, z, e1, h1, h2, h3, h4, h5⟩ := B
  exact ⟨x, y, z, e1, h1, h2, h3, h4, by omega⟩
theorem Bag.keep {h h' : AH} {b : Nat} {k : Int} (B : Bag h b k) (e : h'.g b = h.g b) : Bag h' b k := by
  obtain ⟨x, y, z, e1, q⟩ := B
  exact ⟨x, y, z, e.trans e1, q⟩
theorem base_le {y z : Int} (h2 : 0 ≤ y) (h3 : y < 2305843009213693952) (h4 : 0 ≤ z) (h5 : z < 1073741824) : ((y + 1) * (2 * z + 3) + 6007 * z * z).natAbs < 2 ^ 200 := by
  have a : (y + 1) * (2 * z + 3) ≤ 2305843009213693952 * (2 * 1073741824 + 3) := Int.mul_le_mul (by omega) (by omega) (by omega) (by omega)
  have a0 : 0 ≤ (y + 1) * (2 * z + 3) := Int.mul_nonneg (by omega) (by omega)
  have b : 6007 * z * z ≤ (6007 * 1073741824) * 1073741824 := Int.mul_le_mul (by omega) (by omega) (by omega) (by omega)
  have b0 : 0 ≤ 6007 * z * z := Int.mul_nonneg (by omega) (by omega)
  have e : (2:Nat) ^ 200 = 1606938044258990275541962092341162602522202993782792835301376 := by decide
  rw [e]
  omega
theorem atI_1 {α : Type} (a b : α) (l : List α) : atI (a :: b :: l) 1 = some b := atI_nat (j := 1) rfl
theorem atI_2 {α : Type} (a b c : α) (l : List α) : atI (a :: b :: c :: l) 2 = some c := atI_nat (j := 2) rfl
theorem atI_3 {α : Type} (a b c d : α) (l : List α) : atI (a :: b :: c :: d :: l) 3 = some d := atI_nat (j := 3) rfl
theorem put_put_same (h : AH) (b : Nat) (o o' : AO) : ((h.put b o).put b o').g b = some o' := by rw [AH.put_same]
theorem primes_at (z : Int) : ∃ p : Int, atI [D.int 2147483647, .int 2147483629, .int 2147483587, .int 2147483579, .int 2147483563, .int 2147483549, .int 2147483543, .int 2147483497] (z % 8) = some (.int p) ∧ 2147483497 ≤ p ∧ p ≤ 2147483647 := by
  have h : z % 8 = 0 ∨ z % 8 = 1 ∨ z % 8 = 2 ∨ z % 8 = 3 ∨ z % 8 = 4 ∨ z % 8 = 5 ∨ z % 8 = 6 ∨ z % 8 = 7 := by omega
  rcases h with h | h | h | h | h | h | h | h <;> (rw [h]; exact ⟨_, rfl, by decide, by decide⟩)
theorem take_ok {h : AH} {b : Nat} {k n : Int} (B : Bag h b k) (hk : k < 1000000000) (hn : 0 < n) (hn2 : n < 2 ^ 200) :
    ∃ r h', f_take [.ref b, .int n] h = .ok (.int r) h' ∧ 0 ≤ r ∧ r < n ∧ Bag h' b (k + 1) ∧ But b h h' := by
  obtain ⟨x, y, z, e1, h1, h2, h3, h4, h5⟩ := B
  by_cases hx : 0 < x
  · have hd : pDiv h (.int x) (.int n) = some (.int (x / n)) := pDiv_ok ⟨hn, hn2⟩
    have hm : pMod h (.int x) (.int n) = some (.int (x % n)) := pMod_ok hn
    refine ⟨x % n, h.put b (.lst [.int (x / n), .int y, .int z]), ?_, Int.emod_nonneg _ (by omega), Int.emod_lt_of_pos _ hn, ⟨x / n, y, z, AH.put_same .., Int.ediv_nonneg h1 (by omega), h2, h3, h4, by omega⟩, .put⟩
    simp (disch := omega) only [fnM, eVar, eC, eBin, eUn, aNil, aCons, eTup, eLst, eLstN, eFn, eIf, eFld, eCall, eMeth, eMake, insOf, tst, tstB, MP.tAnd, MP.tOr, MP.tNot, eAnd, eOr, eNot, eChain, truth, optR, Res.bind, Res.bindS, sNil, sSeq, sExp, sRet, sRetN, sIf, sAsg, sSet, sPar, MP.sFld, MP.sFldAug, sFor, nxO, gNm, gFld, gIx, setIx, setFld, gsNil, gsCons, gTp, gLs, MP.iRng1, MP.iRng2, iSeq, iLst, MP.iTup, seqL, seqM, seqT, seqX, eIsi, tyName, isi_ii, isi_ib, isi_bi, isi_bb, isi_ni, isi_si, isi_ss, isi_is, isi_tt, isi_ti, isi_li, pAdd, pSub, pMul_ok, pDiv_ok, pMod_ok, pPow_ok, pNeg, pLt, pLe, pGt, pGe, pEq, pNe, pEqB, sEq, pIs, pIsNot, isNon, pIx, fAbs, fMax2, fMin2, fInt, fLen, gSel, pick, AH.put_g, AH.put_n, AH.new_g, AH.new_n, AH.put_same, AH.new_same, AH.put_put, AH.new_put, List.length_cons, List.length_nil, List.map_cons, List.map_nil, List.cons_append, List.nil_append, List.append_nil, List.replicate, List.getElem?_cons_zero, List.getElem?_cons_succ, List.getElem?_nil, List.set_cons_zero, List.set_cons_succ, List.flatMap_cons, List.flatMap_nil, List.drop_zero, List.drop_succ_cons, List.drop_nil, List.take_succ_cons, List.take_zero, List.take_nil, List.contains_cons, List.contains_nil, Bool.or_false, Bool.or_true, Bool.true_or, Bool.false_or, Bool.and_true, Bool.and_false, Bool.not_true, Bool.not_false, beq_self_eq_true, Nat.reduceAdd, Nat.reduceSub, Nat.reduceLeDiff, Nat.reduceLT, Nat.reduceEqDiff, Nat.reduceBEq, Int.reduceToNat, ↓reduceIte, reduceIte, Bool.false_eq_true, ne_true_f, decide_eq_true_eq, and_self, and_true, true_and, Nat.zero_le, Option.map_some, Option.map_none, Option.bind_some, Int.reducePow, Int.reduceLT, Int.reduceLE, Int.reduceNeg, decide_true, decide_false, ixN_0, ixN_1, ixN_2, ixN_3, ixN_m1, atI_1, atI_2, atI_3, eq_self, Option.some.injEq, atI_0, Nat.zero_add, Nat.add_zero, f_take, e1, hx, hd, hm, atI, ixN_0, Option.bind_some]
  · obtain ⟨p, hp, p1, p2⟩ := primes_at (z + 1)
    obtain ⟨q, hq, q1, q2⟩ := primes_at (z + 1 + 3)
    have u0 := Int.emod_nonneg (((y + 1) * (2 * (z + 1) + 3) + 6007 * (z + 1) * (z + 1)) ^ 3) (show p ≠ 0 by omega)
    have u1 := Int.emod_lt_of_pos (((y + 1) * (2 * (z + 1) + 3) + 6007 * (z + 1) * (z + 1)) ^ 3) (show 0 < p by omega)
    generalize hB : ((y + 1) * (2 * (z + 1) + 3) + 6007 * (z + 1) * (z + 1)) ^ 3 % p = g at u0 u1
    have v0 := Int.emod_nonneg (g * (g / 8192 + 11)) (show q ≠ 0 by omega)
    have v1 := Int.emod_lt_of_pos (g * (g / 8192 + 11)) (show 0 < q by omega)
    have pw : ∀ h, pPow h (.int ((y + 1) * (2 * (z + 1) + 3) + 6007 * (z + 1) * (z + 1))) (.int 3) = some (.int (((y + 1) * (2 * (z + 1) + 3) + 6007 * (z + 1) * (z + 1)) ^ 3)) := fun h => pPow_ok (by decide) (base_le h2 h3 (by omega) (by omega))
    have m1 : ∀ h, pMul h (.int (y + 1)) (.int (2 * (z + 1) + 3)) = some (.int ((y + 1) * (2 * (z + 1) + 3))) := fun h => pMul_ok (by omega)
    have m2 : ∀ h, pMul h (.int (6007 * (z + 1))) (.int (z + 1)) = some (.int (6007 * (z + 1) * (z + 1))) := fun h => pMul_ok (by omega)
    have m3 : ∀ h, pMul h (.int g) (.int (g / 8192 + 11)) = some (.int (g * (g / 8192 + 11))) := fun h => pMul_ok (by omega)
    have m4 : ∀ h i, pMul h (.int 2) (.int i) = some (.int (2 * i)) := fun h i => pMul_ok (by omega)
    have m5 : ∀ h i, pMul h (.int 6007) (.int i) = some (.int (6007 * i)) := fun h i => pMul_ok (by omega)
    have e8 : ∀ h i, pMod h (.int i) (.int 8) = some (.int (i % 8)) := fun h i => pMod_ok (by decide)
    have ep : ∀ h i, pMod h (.int i) (.int p) = some (.int (i % p)) := fun h i => pMod_ok (by omega)
    have eq : ∀ h i, pMod h (.int i) (.int q) = some (.int (i % q)) := fun h i => pMod_ok (by omega)
    have en : ∀ h i, pMod h (.int i) (.int n) = some (.int (i % n)) := fun h i => pMod_ok hn
    have d1 : ∀ h i, pDiv h (.int i) (.int 8192) = some (.int (i / 8192)) := fun h i => pDiv_ok (by decide)
    have d2 : ∀ h i, pDiv h (.int i) (.int 32) = some (.int (i / 32)) := fun h i => pDiv_ok (by decide)
    refine ⟨g * (g / 8192 + 11) % q / 32 % n, h.put b (.lst [.int x, .int y, .int (z + 1)]), ?_, Int.emod_nonneg _ (by omega), Int.emod_lt_of_pos _ hn, ⟨x, y, z + 1, AH.put_same .., h1, h2, h3, by omega, by omega⟩, .put⟩
    simp (disch := omega) only [fnM, eVar, eC, eBin, eUn, aNil, aCons, eTup, eLst, eLstN, eFn, eIf, eFld, eCall, eMeth, eMake, insOf, tst, tstB, MP.tAnd, MP.tOr, MP.tNot, eAnd, eOr, eNot, eChain, truth, optR, Res.bind, Res.bindS, sNil, sSeq, sExp, sRet, sRetN, sIf, sAsg, sSet, sPar, MP.sFld, MP.sFldAug, sFor, nxO, gNm, gFld, gIx, setIx, setFld, gsNil, gsCons, gTp, gLs, MP.iRng1, MP.iRng2, iSeq, iLst, MP.iTup, seqL, seqM, seqT, seqX, eIsi, tyName, isi_ii, isi_ib, isi_bi, isi_bb, isi_ni, isi_si, isi_ss, isi_is, isi_tt, isi_ti, isi_li, pAdd, pSub, pMul_ok, pDiv_ok, pMod_ok, pPow_ok, pNeg, pLt, pLe, pGt, pGe, pEq, pNe, pEqB, sEq, pIs, pIsNot, isNon, pIx, fAbs, fMax2, fMin2, fInt, fLen, gSel, pick, AH.put_g, AH.put_n, AH.new_g, AH.new_n, AH.put_same, AH.new_same, AH.put_put, AH.new_put, List.length_cons, List.length_nil, List.map_cons, List.map_nil, List.cons_append, List.nil_append, List.append_nil, List.replicate, List.getElem?_cons_zero, List.getElem?_cons_succ, List.getElem?_nil, List.set_cons_zero, List.set_cons_succ, List.flatMap_cons, List.flatMap_nil, List.drop_zero, List.drop_succ_cons, List.drop_nil, List.take_succ_cons, List.take_zero, List.take_nil, List.contains_cons, List.contains_nil, Bool.or_false, Bool.or_true, Bool.true_or, Bool.false_or, Bool.and_true, Bool.and_false, Bool.not_true, Bool.not_false, beq_self_eq_true, Nat.reduceAdd, Nat.reduceSub, Nat.reduceLeDiff, Nat.reduceLT, Nat.reduceEqDiff, Nat.reduceBEq, Int.reduceToNat, ↓reduceIte, reduceIte, Bool.false_eq_true, ne_true_f, decide_eq_true_eq, and_self, and_true, true_and, Nat.zero_le, Option.map_some, Option.map_none, Option.bind_some, Int.reducePow, Int.reduceLT, Int.reduceLE, Int.reduceNeg, decide_true, decide_false, ixN_0, ixN_1, ixN_2, ixN_3, ixN_m1, atI_1, atI_2, atI_3, eq_self, Option.some.injEq, atI_0, Nat.zero_add, Nat.add_zero, f_take, e1, hx, ixN_0, ixN_1, ixN_2, atI_1, atI_2, hp, hq, hB, pw, m1, m2, m3, m4, m5, e8, ep, eq, en, d1, d2, decide_false]
theorem bagCore (c : Int) (a : Nat) (ha : a < 100000) {m : Int} (hm : 0 < m) (hm2 : m ≤ 1000000000000000003) :
    0 ≤ (if c < 0 then -c else c) * (if (1000000000000000000 ≤ (if c < 0 then -c else c)) then 1 else 0) ∧ 0 ≤ c % m + 40009 * (a : Int) ∧ c % m + 40009 * (a : Int) < 2305843009213693952 := by
  have u0 := Int.emod_nonneg c (show m ≠ 0 by omega)
  have u1 := Int.emod_lt_of_pos c hm
  refine ⟨?_, by omega, by omega⟩
  apply Int.mul_nonneg <;> split <;> omega
theorem pow10_18 (h : AH) : pPow h (.int 10) (.int 18) = some (.int 1000000000000000000) := by
  rw [pPow_ok (by decide) (by decide)]
  rfl
theorem bagMul (c : Int) (h : AH) (p : Prop) [Decidable p] : pMul h (.int c) (.int (if p then 1 else 0)) = some (.int (c * (if p then 1 else 0))) := pMul_ok (by split <;> omega)
def bagAO (m c : Int) (a : Nat) : AO := .lst [.int ((if c < 0 then -c else c) * (if 1000000000000000000 ≤ (if c < 0 then -c else c) then 1 else 0)), .int (c % m + 40009 * (a : Int)), .int 0]
theorem bag_mem {m c : Int} {a : Nat} {h : AH} (ha : a < 100000) (hm : 0 < m) (hm2 : m ≤ 1000000000000000003) : Bag (h.new (bagAO m c a)) h.n 0 := by
  obtain ⟨b1, b2, b3⟩ := bagCore c a ha hm hm2
  exact ⟨_, _, _, AH.new_same .., b1, b2, b3, Int.le_refl _, Int.le_refl _⟩
theorem bagA_1 (c : Int) (ns : List Int) (a : Nat) (h : AH) (hc : atI (ns.map D.int) (a : Int) = some (.int c)) (hl2 : (a : Int) < (ns.length : Int)) : f_bagA [.fz (ns.map .int), .int a] h = .ok (.ref h.n) (h.new (bagAO 2147483587 c a)) := by
  have m1 : ∀ h, pMul h (.int 5081) (.int a) = some (.int (5081 * (a : Int))) := fun h => pMul_ok (.inl (by decide))
  have m2 : ∀ h, pMul h (.int 40009) (.int a) = some (.int (40009 * (a : Int))) := fun h => pMul_ok (.inl (by decide))
  have m3 : ∀ h i, pMod h (.int i) (.int 2147483587) = some (.int (i % 2147483587)) := fun h i => pMod_ok (by decide)
  unfold bagAO
  simp (disch := omega) only [fnM, eVar, eC, eBin, eUn, aNil, aCons, eTup, eLst, eLstN, eFn, eIf, eFld, eCall, eMeth, eMake, insOf, tst, tstB, MP.tAnd, MP.tOr, MP.tNot, eAnd, eOr, eNot, eChain, truth, optR, Res.bind, Res.bindS, sNil, sSeq, sExp, sRet, sRetN, sIf, sAsg, sSet, sPar, MP.sFld, MP.sFldAug, sFor, nxO, gNm, gFld, gIx, setIx, setFld, gsNil, gsCons, gTp, gLs, MP.iRng1, MP.iRng2, iSeq, iLst, MP.iTup, seqL, seqM, seqT, seqX, eIsi, tyName, isi_ii, isi_ib, isi_bi, isi_bb, isi_ni, isi_si, isi_ss, isi_is, isi_tt, isi_ti, isi_li, pAdd, pSub, pDiv_ok, pNeg, pLt, pLe, pGt, pGe, pEq, pNe, pEqB, sEq, pIs, pIsNot, isNon, pIx, fAbs, fMax2, fMin2, fInt, fLen, gSel, pick, AH.put_g, AH.put_n, AH.new_g, AH.new_n, AH.put_same, AH.new_same, AH.put_put, AH.new_put, List.length_cons, List.length_nil, List.map_cons, List.map_nil, List.cons_append, List.nil_append, List.append_nil, List.replicate, List.getElem?_cons_zero, List.getElem?_cons_succ, List.getElem?_nil, List.set_cons_zero, List.set_cons_succ, List.flatMap_cons, List.flatMap_nil, List.drop_zero, List.drop_succ_cons, List.drop_nil, List.take_succ_cons, List.take_zero, List.take_nil, List.contains_cons, List.contains_nil, Bool.or_false, Bool.or_true, Bool.true_or, Bool.false_or, Bool.and_true, Bool.and_false, Bool.not_true, Bool.not_false, beq_self_eq_true, Nat.reduceAdd, Nat.reduceSub, Nat.reduceLeDiff, Nat.reduceLT, Nat.reduceEqDiff, Nat.reduceBEq, Int.reduceToNat, ↓reduceIte, reduceIte, Bool.false_eq_true, ne_true_f, decide_eq_true_eq, and_self, and_true, true_and, Nat.zero_le, Option.map_some, Option.map_none, Option.bind_some, Int.reduceLT, Int.reduceLE, Int.reduceNeg, decide_true, decide_false, ixN_0, ixN_1, ixN_2, ixN_3, ixN_m1, atI_1, atI_2, atI_3, eq_self, Option.some.injEq, atI_0, Nat.zero_add, Nat.add_zero, f_bagA, hc, hl2, List.length_map, bagMul, pow10_18, m1, m2, m3]
theorem bagA_2 (c : Int) (ns : List Int) (a : Nat) (h : AH) (hc : 5081 * (a : Int) + 3 = c) (hl2 : ¬ (a : Int) < (ns.length : Int)) : f_bagA [.fz (ns.map .int), .int a] h = .ok (.ref h.n) (h.new (bagAO 2147483587 c a)) := by
  have m1 : ∀ h, pMul h (.int 5081) (.int a) = some (.int (5081 * (a : Int))) := fun h => pMul_ok (.inl (by decide))
  have m2 : ∀ h, pMul h (.int 40009) (.int a) = some (.int (40009 * (a : Int))) := fun h => pMul_ok (.inl (by decide))
  have m3 : ∀ h i, pMod h (.int i) (.int 2147483587) = some (.int (i % 2147483587)) := fun h i => pMod_ok (by decide)
  unfold bagAO
  simp (disch := omega) only [fnM, eVar, eC, eBin, eUn, aNil, aCons, eTup, eLst, eLstN, eFn, eIf, eFld, eCall, eMeth, eMake, insOf, tst, tstB, MP.tAnd, MP.tOr, MP.tNot, eAnd, eOr, eNot, eChain, truth, optR, Res.bind, Res.bindS, sNil, sSeq, sExp, sRet, sRetN, sIf, sAsg, sSet, sPar, MP.sFld, MP.sFldAug, sFor, nxO, gNm, gFld, gIx, setIx, setFld, gsNil, gsCons, gTp, gLs, MP.iRng1, MP.iRng2, iSeq, iLst, MP.iTup, seqL, seqM, seqT, seqX, eIsi, tyName, isi_ii, isi_ib, isi_bi, isi_bb, isi_ni, isi_si, isi_ss, isi_is, isi_tt, isi_ti, isi_li, pAdd, pSub, pDiv_ok, pNeg, pLt, pLe, pGt, pGe, pEq, pNe, pEqB, sEq, pIs, pIsNot, isNon, pIx, fAbs, fMax2, fMin2, fInt, fLen, gSel, pick, AH.put_g, AH.put_n, AH.new_g, AH.new_n, AH.put_same, AH.new_same, AH.put_put, AH.new_put, List.length_cons, List.length_nil, List.map_cons, List.map_nil, List.cons_append, List.nil_append, List.append_nil, List.replicate, List.getElem?_cons_zero, List.getElem?_cons_succ, List.getElem?_nil, List.set_cons_zero, List.set_cons_succ, List.flatMap_cons, List.flatMap_nil, List.drop_zero, List.drop_succ_cons, List.drop_nil, List.take_succ_cons, List.take_zero, List.take_nil, List.contains_cons, List.contains_nil, Bool.or_false, Bool.or_true, Bool.true_or, Bool.false_or, Bool.and_true, Bool.and_false, Bool.not_true, Bool.not_false, beq_self_eq_true, Nat.reduceAdd, Nat.reduceSub, Nat.reduceLeDiff, Nat.reduceLT, Nat.reduceEqDiff, Nat.reduceBEq, Int.reduceToNat, ↓reduceIte, reduceIte, Bool.false_eq_true, ne_true_f, decide_eq_true_eq, and_self, and_true, true_and, Nat.zero_le, Option.map_some, Option.map_none, Option.bind_some, Int.reduceLT, Int.reduceLE, Int.reduceNeg, decide_true, decide_false, ixN_0, ixN_1, ixN_2, ixN_3, ixN_m1, atI_1, atI_2, atI_3, eq_self, Option.some.injEq, atI_0, Nat.zero_add, Nat.add_zero, f_bagA, hc, hl2, List.length_map, bagMul, pow10_18, m1, m2, m3]
theorem bagA_ok (ns : List Int) (a : Nat) (ha : a < 100000) (h : AH) : ∃ o, f_bagA [.fz (ns.map .int), .int a] h = .ok (.ref h.n) (h.new o) ∧ Bag (h.new o) h.n 0 := by
  by_cases hl : a < ns.length
  · have hg : (ns.map D.int)[a]? = some (.int ns[a]) := by simp [List.getElem?_eq_getElem hl]
    exact ⟨_, bagA_1 _ ns a h (atI_nat hg) (by omega), bag_mem ha (by decide) (by decide)⟩
  · exact ⟨_, bagA_2 _ ns a h rfl (by omega), bag_mem ha (by decide) (by decide)⟩
theorem bagB_1 (c : Int) (ns : List Int) (a : Nat) (h : AH) (hc : atI (ns.map D.int) (a : Int) = some (.int c)) (hl2 : (a : Int) < (ns.length : Int)) : f_bagB [.fz (ns.map .int), .int a] h = .ok (.ref h.n) (h.new (bagAO 1000000000000000003 c a)) := by
  have m1 : ∀ h, pMul h (.int 5081) (.int a) = some (.int (5081 * (a : Int))) := fun h => pMul_ok (.inl (by decide))
  have m2 : ∀ h, pMul h (.int 40009) (.int a) = some (.int (40009 * (a : Int))) := fun h => pMul_ok (.inl (by decide))
  have m3 : ∀ h i, pMod h (.int i) (.int 1000000000000000003) = some (.int (i % 1000000000000000003)) := fun h i => pMod_ok (by decide)
  unfold bagAO
  simp (disch := omega) only [fnM, eVar, eC, eBin, eUn, aNil, aCons, eTup, eLst, eLstN, eFn, eIf, eFld, eCall, eMeth, eMake, insOf, tst, tstB, MP.tAnd, MP.tOr, MP.tNot, eAnd, eOr, eNot, eChain, truth, optR, Res.bind, Res.bindS, sNil, sSeq, sExp, sRet, sRetN, sIf, sAsg, sSet, sPar, MP.sFld, MP.sFldAug, sFor, nxO, gNm, gFld, gIx, setIx, setFld, gsNil, gsCons, gTp, gLs, MP.iRng1, MP.iRng2, iSeq, iLst, MP.iTup, seqL, seqM, seqT, seqX, eIsi, tyName, isi_ii, isi_ib, isi_bi, isi_bb, isi_ni, isi_si, isi_ss, isi_is, isi_tt, isi_ti, isi_li, pAdd, pSub, pDiv_ok, pNeg, pLt, pLe, pGt, pGe, pEq, pNe, pEqB, sEq, pIs, pIsNot, isNon, pIx, fAbs, fMax2, fMin2, fInt, fLen, gSel, pick, AH.put_g, AH.put_n, AH.new_g, AH.new_n, AH.put_same, AH.new_same, AH.put_put, AH.new_put, List.length_cons, List.length_nil, List.map_cons, List.map_nil, List.cons_append, List.nil_append, List.append_nil, List.replicate, List.getElem?_cons_zero, List.getElem?_cons_succ, List.getElem?_nil, List.set_cons_zero, List.set_cons_succ, List.flatMap_cons, List.flatMap_nil, List.drop_zero, List.drop_succ_cons, List.drop_nil, List.take_succ_cons, List.take_zero, List.take_nil, List.contains_cons, List.contains_nil, Bool.or_false, Bool.or_true, Bool.true_or, Bool.false_or, Bool.and_true, Bool.and_false, Bool.not_true, Bool.not_false, beq_self_eq_true, Nat.reduceAdd, Nat.reduceSub, Nat.reduceLeDiff, Nat.reduceLT, Nat.reduceEqDiff, Nat.reduceBEq, Int.reduceToNat, ↓reduceIte, reduceIte, Bool.false_eq_true, ne_true_f, decide_eq_true_eq, and_self, and_true, true_and, Nat.zero_le, Option.map_some, Option.map_none, Option.bind_some, Int.reduceLT, Int.reduceLE, Int.reduceNeg, decide_true, decide_false, ixN_0, ixN_1, ixN_2, ixN_3, ixN_m1, atI_1, atI_2, atI_3, eq_self, Option.some.injEq, atI_0, Nat.zero_add, Nat.add_zero, f_bagB, hc, hl2, List.length_map, bagMul, pow10_18, m1, m2, m3]
theorem bagB_2 (c : Int) (ns : List Int) (a : Nat) (h : AH) (hc : 5081 * (a : Int) + 3 = c) (hl2 : ¬ (a : Int) < (ns.length : Int)) : f_bagB [.fz (ns.map .int), .int a] h = .ok (.ref h.n) (h.new (bagAO 1000000000000000003 c a)) := by
  have m1 : ∀ h, pMul h (.int 5081) (.int a) = some (.int (5081 * (a : Int))) := fun h => pMul_ok (.inl (by decide))
  have m2 : ∀ h, pMul h (.int 40009) (.int a) = some (.int (40009 * (a : Int))) := fun h => pMul_ok (.inl (by decide))
  have m3 : ∀ h i, pMod h (.int i) (.int 1000000000000000003) = some (.int (i % 1000000000000000003)) := fun h i => pMod_ok (by decide)
  unfold bagAO
  simp (disch := omega) only [fnM, eVar, eC, eBin, eUn, aNil, aCons, eTup, eLst, eLstN, eFn, eIf, eFld, eCall, eMeth, eMake, insOf, tst, tstB, MP.tAnd, MP.tOr, MP.tNot, eAnd, eOr, eNot, eChain, truth, optR, Res.bind, Res.bindS, sNil, sSeq, sExp, sRet, sRetN, sIf, sAsg, sSet, sPar, MP.sFld, MP.sFldAug, sFor, nxO, gNm, gFld, gIx, setIx, setFld, gsNil, gsCons, gTp, gLs, MP.iRng1, MP.iRng2, iSeq, iLst, MP.iTup, seqL, seqM, seqT, seqX, eIsi, tyName, isi_ii, isi_ib, isi_bi, isi_bb, isi_ni, isi_si, isi_ss, isi_is, isi_tt, isi_ti, isi_li, pAdd, pSub, pDiv_ok, pNeg, pLt, pLe, pGt, pGe, pEq, pNe, pEqB, sEq, pIs, pIsNot, isNon, pIx, fAbs, fMax2, fMin2, fInt, fLen, gSel, pick, AH.put_g, AH.put_n, AH.new_g, AH.new_n, AH.put_same, AH.new_same, AH.put_put, AH.new_put, List.length_cons, List.length_nil, List.map_cons, List.map_nil, List.cons_append, List.nil_append, List.append_nil, List.replicate, List.getElem?_cons_zero, List.getElem?_cons_succ, List.getElem?_nil, List.set_cons_zero, List.set_cons_succ, List.flatMap_cons, List.flatMap_nil, List.drop_zero, List.drop_succ_cons, List.drop_nil, List.take_succ_cons, List.take_zero, List.take_nil, List.contains_cons, List.contains_nil, Bool.or_false, Bool.or_true, Bool.true_or, Bool.false_or, Bool.and_true, Bool.and_false, Bool.not_true, Bool.not_false, beq_self_eq_true, Nat.reduceAdd, Nat.reduceSub, Nat.reduceLeDiff, Nat.reduceLT, Nat.reduceEqDiff, Nat.reduceBEq, Int.reduceToNat, ↓reduceIte, reduceIte, Bool.false_eq_true, ne_true_f, decide_eq_true_eq, and_self, and_true, true_and, Nat.zero_le, Option.map_some, Option.map_none, Option.bind_some, Int.reduceLT, Int.reduceLE, Int.reduceNeg, decide_true, decide_false, ixN_0, ixN_1, ixN_2, ixN_3, ixN_m1, atI_1, atI_2, atI_3, eq_self, Option.some.injEq, atI_0, Nat.zero_add, Nat.add_zero, f_bagB, hc, hl2, List.length_map, bagMul, pow10_18, m1, m2, m3]
theorem bagB_ok (ns : List Int) (a : Nat) (ha : a < 100000) (h : AH) : ∃ o, f_bagB [.fz (ns.map .int), .int a] h = .ok (.ref h.n) (h.new o) ∧ Bag (h.new o) h.n 0 := by
  by_cases hl : a < ns.length
  · have hg : (ns.map D.int)[a]? = some (.int ns[a]) := by simp [List.getElem?_eq_getElem hl]
    exact ⟨_, bagB_1 _ ns a h (atI_nat hg) (by omega), bag_mem ha (by decide) (by decide)⟩
  · exact ⟨_, bagB_2 _ ns a h rfl (by omega), bag_mem ha (by decide) (by decide)⟩
end MP
set_option Elab.async false
set_option linter.all false
set_option maxRecDepth 100000
/-! mirrors: what repr can tell -/
namespace MP
open PySem PySem.Spec L2
/-- repr tells it: a text of so many signs at most, nested so deep at most -/
structure Sh (p : PyData) (n d : Nat) : Prop where
  s : p.showable = true
  k : p.hasDict = false
  l : p.shown.length ≤ n
  d : p.depth ≤ d
structure ShL (p : List PyData) (n d : Nat) : Prop where
  s : PyData.showableAll p = true
  k : PyData.hasDictAll p = false
  l : ((PyData.shownAll p).map (·.length)).sum + 2 * p.length ≤ n
  d : PyData.depthAll p ≤ d
theorem Sh.mono {p : PyData} {n d n' d' : Nat} (s : Sh p n d) (h : n ≤ n') (e : d ≤ d') : Sh p n' d' := ⟨s.s, s.k, Nat.le_trans s.l h, Nat.le_trans s.d e⟩
theorem ShL.mono {p : List PyData} {n d n' d' : Nat} (s : ShL p n d) (h : n ≤ n') (e : d ≤ d') : ShL p n' d' := ⟨s.s, s.k, Nat.le_trans s.l h, Nat.le_trans s.d e⟩
theorem Sh.int {i : Int} (h : i.natAbs < 100000000000000000000) : Sh (.int i) 21 0 := by
  refine ⟨?_, by simp [PyData.hasDict], ?_, by simp [PyData.depth]⟩
  · simp only [PyData.showable, decide_eq_true_eq]
    have : i.natAbs.log2 < 67 := PySem.Flt.log2_lt_of (by decide) (Nat.lt_trans h (by decide))
    omega
  · have e := int_text_length_le10 (a := i) (k := 20) (by decide) (Nat.lt_of_lt_of_le h (by decide))
    show (Str.ofString (toString i)).length ≤ 21
    rw [ofString_length]
    omega
theorem Sh.non : Sh .none 4 0 := ⟨by simp [PyData.showable], by simp [PyData.hasDict], by decide, by simp [PyData.depth]⟩
theorem Sh.bl (b : Bool) : Sh (.bool b) 5 0 := ⟨by simp [PyData.showable], by simp [PyData.hasDict], by cases b <;> decide, by simp [PyData.depth]⟩
theorem Sh.str {x : Str} {n : Nat} (h : ∀ c ∈ x.cps.toList, c < 16 ^ 8) (hn : x.length ≤ n) : Sh (.str x) (10 * n + 2) 0 := by
  refine ⟨by simp [PyData.showable], by simp [PyData.hasDict], ?_, by simp [PyData.depth]⟩
  have e := StrLaws.reprText_len x h
  simp only [PyData.shown]
  have : x.length = x.cps.size := rfl
  omega
theorem ShL.nil : ShL [] 0 0 := ⟨by simp [PyData.showableAll], by simp [PyData.hasDictAll], by simp [PyData.shownAll], by simp [PyData.depthAll]⟩
theorem ShL.cons {p : PyData} {ps : List PyData} {n d m e : Nat} (a : Sh p n d) (b : ShL ps m e) : ShL (p :: ps) (n + 2 + m) (max d e) := by
  refine ⟨by simp [PyData.showableAll, a.s, b.s], by simp [PyData.hasDictAll, a.k, b.k], ?_, ?_⟩
  · have := a.l
    have := b.l
    simp only [PyData.shownAll, List.map_cons, List.sum_cons, List.length_cons]
    omega
  · have := a.d
    have := b.d
    simp only [PyData.depthAll]
    omega
theorem ShL.all {ps : List PyData} {n d : Nat} (h : ∀ p ∈ ps, Sh p n d) : ShL ps ((n + 2) * ps.length) d := by
  induction ps with
  | nil => exact ShL.nil.mono (by omega) (by omega)
  | cons p ps ih =>
    exact (ShL.cons (h p List.mem_cons_self) (ih fun q hq => h q (List.mem_cons_of_mem _ hq))).mono (by rw [List.length_cons, Nat.mul_add]; omega) (by omega)
theorem Sh.lst {ps : List PyData} {n d : Nat} (a : ShL ps n d) : Sh (.list ps) (n + 3) (d + 1) := by
  refine ⟨by simp [PyData.showable, a.s], by simp [PyData.hasDict, a.k], ?_, ?_⟩
  · have := a.l
    have h2 := listText_len_le (PyData.shownAll ps)
    have h3 := PyData.shownAll_length ps
    simp only [PyData.shown]
    omega
  · have := a.d
    simp only [PyData.depth]
    omega
theorem Sh.tup {ps : List PyData} {n d : Nat} (a : ShL ps n d) : Sh (.tuple ps) (n + 3) (d + 1) := by
  refine ⟨by simp [PyData.showable, a.s], by simp [PyData.hasDict, a.k], ?_, ?_⟩
  · have := a.l
    have h2 := tupleText_len_le (PyData.shownAll ps)
    have h3 := PyData.shownAll_length ps
    simp only [PyData.shown]
    omega
  · have := a.d
    simp only [PyData.depth]
    omega
theorem repr_of {h : AH} {x : D} {p : PyData} {n d : Nat} (e : pd h x = some p) (a : Sh p n d) (hn : n ≤ 100000) (hd : d ≤ 20) : fRepr h [x] = some (.str p.shown) := by
  have := a.l
  have := a.d
  unfold fRepr
  simp only [e]
  rw [if_pos ⟨a.s, a.k, by omega, by omega⟩]
theorem eqb_self {h : AH} {x : D} {p : PyData} (e0 : sEq x x = none) (e : pd h x = some p) (a : SeqAt.shaped p = true) : pEqB h x x = some true := by
  unfold pEqB
  rw [e0]
  simp only [e]
  rw [if_pos ⟨a, a⟩]
  have hl : p.canLay0 = true := by
    unfold SeqAt.shaped at a
    exact (Bool.and_eq_true_iff.mp a).1
  rw [SeqAt.eqv_refl p hl]
theorem eqb_ints2 (h : AH) (a b : Int) : pEqB h (.lst [.int a, .int b]) (.lst [.int a, .int b]) = some true :=
  eqb_self rfl (p := .list [.int a, .int b]) rfl (by simp [SeqAt.shaped, PyData.canLay0, PyData.canLayAll0, PyData.depth, PyData.depthAll])
theorem menu4 {α : Type} (a b c d : α) {r : Int} (h0 : 0 ≤ r) (h1 : r < 4) : ∃ x, atI [a, b, c, d] r = some x ∧ (x = a ∨ x = b ∨ x = c ∨ x = d) := by
  have h : r = 0 ∨ r = 1 ∨ r = 2 ∨ r = 3 := by omega
  rcases h with h | h | h | h <;> rw [h]
  · exact ⟨_, atI_0 .., by simp⟩
  · exact ⟨_, atI_1 .., by simp⟩
  · exact ⟨_, atI_2 .., by simp⟩
  · exact ⟨_, atI_3 .., by simp⟩
theorem menu3 {α : Type} (a b c : α) {r : Int} (h0 : 0 ≤ r) (h1 : r < 3) : ∃ x, atI [a, b, c] r = some x ∧ (x = a ∨ x = b ∨ x = c) := by
  have h : r = 0 ∨ r = 1 ∨ r = 2 := by omega
  rcases h with h | h | h <;> rw [h]
  · exact ⟨_, atI_0 .., by simp⟩
  · exact ⟨_, atI_1 .., by simp⟩
  · exact ⟨_, atI_2 .., by simp⟩
theorem menu2 {α : Type} (a b : α) {r : Int} (h0 : 0 ≤ r) (h1 : r < 2) : ∃ x, atI [a, b] r = some x ∧ (x = a ∨ x = b) := by
  have h : r = 0 ∨ r = 1 := by omega
  rcases h with h | h <;> rw [h]
  · exact ⟨_, atI_0 .., by simp⟩
  · exact ⟨_, atI_1 .., by simp⟩
theorem menu4i (a b c d : Int) {r : Int} (h0 : 0 ≤ r) (h1 : r < 4) : ∃ x : Int, atI [D.int a, .int b, .int c, .int d] r = some (.int x) ∧ (x = a ∨ x = b ∨ x = c ∨ x = d) := by
  obtain ⟨x, e, z⟩ := menu4 (D.int a) (.int b) (.int c) (.int d) h0 h1
  rcases z with rfl | rfl | rfl | rfl
  · exact ⟨_, e, by simp⟩
  · exact ⟨_, e, by simp⟩
  · exact ⟨_, e, by simp⟩
  · exact ⟨_, e, by simp⟩
theorem menu3i (a b c : Int) {r : Int} (h0 : 0 ≤ r) (h1 : r < 3) : ∃ x : Int, atI [D.int a, .int b, .int c] r = some (.int x) ∧ (x = a ∨ x = b ∨ x = c) := by
  obtain ⟨x, e, z⟩ := menu3 (D.int a) (.int b) (.int c) h0 h1
  rcases z with rfl | rfl | rfl
  · exact ⟨_, e, by simp⟩
  · exact ⟨_, e, by simp⟩
  · exact ⟨_, e, by simp⟩
theorem rngG {n : Int} (h : 0 ≤ n) (h2 : n < 1000000) : -2 ^ 62 ≤ n ∧ n < 2 ^ 62 := by omega
theorem pow10_10 (h : AH) : pPow h (.int 10) (.int 10) = some (.int 10000000000) := by
  rw [pPow_ok (by decide) (by decide)]
  rfl
theorem pow10_11 (h : AH) : pPow h (.int 10) (.int 11) = some (.int 100000000000) := by
  rw [pPow_ok (by decide) (by decide)]
  rfl
theorem pow10_6 (h : AH) : pPow h (.int 10) (.int 6) = some (.int 1000000) := by
  rw [pPow_ok (by decide) (by decide)]
  rfl
end MP
set_option Elab.async false
set_option linter.all false
set_option maxRecDepth 100000
set_option maxHeartbeats 4000000
/-! mirrors: own exceptions that bear fields, over any of Python's: made, raised, caught -/
namespace MP
open PySem PySem.Spec L2
open PyProof.Rows hiding St

/-- what is to be known of an own exception class at C over the built-in B -/
structure Xk (K : PySem.W.Frag) (C : Addr) (newId : String) (bmB : List Value) : Prop where
  ini : PySem.W.excInitIn K C bmB newId = true
  ovr : PySem.W.excOver K C bmB = true
  sa : PySem.W.findIn K (.ref C) "__setattr__" = some (some (.builtin "object.__setattr__"))
  dct : PySem.W.hasDictIn K C = true
  exC : PySem.W.subIn K (.ref C) (.type "BaseException") = some true
  tyC : PySem.W.typeIn K (.ref C) = some (.type "type")
  kC : PySem.W.keepIn K (.ref C) = true

section
variable {X : Cx} {pins : List (Addr × Obj)} {σ : L2.St} {H : Hp} {s : Shared} {a C dx : Addr} {f : Str} {y : V} {u : Value} {fs : List (Str × V)} {Q : Unit → Shared → Prop} {E : Value → Shared → Prop} {A : Around}
  {B newId : String} {bmB : List Value}
/-- the first field -/
theorem st_first (SF : StoreFacts B bmB "object.__setattr__" "object") (Z : Xk X.K C newId bmB) (I : Inv X pins σ H s) (e : H a = some (exo a C none)) (ht : PySem.W.takerIn X.K C f = some none) (ry : RelV y u)
    (h : ∀ d s', H d = none → d ≠ a → Inv X pins σ (upd (upd H d (exd d [(f, y)])) a (exo a C (some d))) s' → Q () s') : wpAny (model X.prog X.w) A (setAttr (.ref a) f u) Q E s := by
  obtain ⟨t1, ho⟩ := exo_at I.hok e
  obtain ⟨cd, hc, hd⟩ := PySem.W.any_some Z.dct
  obtain ⟨hp, g, dr, t, os⟩ := s
  refine PySem.W.set_plain I.kIn (ox := PySem.W.excObj C t1 none .none) (od := none) ⟨ho, rfl, rfl, trivial⟩ Z.sa ?_
  refine PySem.W.osa_openX (od := none) SF I.kIn ⟨ho, rfl, rfl, trivial⟩ Z.ovr ht fun b => ?_
  dsimp only
  unfold Builtin.ObjectAttr.storeInOwnDict Builtin.ObjectAttr.ownDictForStores
  refine wpAny_bind (wpAny_pure (wpAny_bind (PySem.W.instanceDict_exc ho (PySem.W.looks_clsIn I.kIn hc) hd ?_)))
  dsimp only
  have hxs : a ≠ hp.objs.size := Nat.ne_of_lt (Heap.lt_size ho)
  have ho1 : (hp.push (PySem.W.dictOf [] 0)).get? a = some (PySem.W.excObj C t1 none .none) := Heap.get?_push_of_some _ ho
  refine PySem.HandSPX.store_in_new ?_ fun h' tk' hn hs => ?_
  · exact ⟨_, #[], _, (Heap.get?_update_ne _ _ _ _ hxs.symm).trans (Heap.get?_push_at rfl rfl), rfl, fun e he => absurd he (by simp), fun _ => rfl⟩
  have hnd : H hp.objs.size = none := I.hok.fresh (Nat.le_refl _)
  have hna : ∀ {b : Addr}, H b = none → b ≠ a := fun {b} n z => by rw [z, e] at n; cases n
  have hxx : h'.get? a = some (PySem.W.excObj C t1 (some hp.objs.size) .none) := (hs.2 a hxs).trans (Heap.get?_update_self _ ho1 rfl)
  have keep : ∀ b o, b ≠ a → hp.get? b = some o → h'.get? b = some o := fun b o hb q =>
    (hs.2 b (Nat.ne_of_lt (Heap.lt_size q))).trans ((Heap.get?_update_ne _ _ _ _ hb).trans (Heap.get?_push_of_some _ q))
  have nd : ∀ {b : Addr} {o : Obj}, hp.get? b = some o → b ≠ hp.objs.size := fun {b o} q => Nat.ne_of_lt (Heap.lt_size q)
  refine h hp.objs.size _ hnd hxs.symm (I.un (t' := tk') {
    keep := fun b o q n _ _ => keep b o (hna n) q
    slot := fun b o q n _ _ => ⟨o.slots, keep b o (hna n) q⟩
    free := fun b o q n _ => (upd_ne (hna n)).trans ((upd_ne (nd q)).trans n)
    there := fun b o q _ => if z : b = a then ⟨_, z ▸ hxx⟩ else ⟨o, keep b o z q⟩
    tups := fun b xs q => (upd_ne (at_ne e q exo_tup)).trans ((upd_ne (ne_of_none q hnd)).trans q)
    frzs := fun b o v q => (upd_ne (at_ne e q exo_frz)).trans ((upd_ne (ne_of_none q hnd)).trans q)
    tbls := fun b ps q => ⟨#[], by rw [upd_ne (at_ne e q exo_tbl), upd_ne (ne_of_none q hnd), q]; simp⟩ } fun b o q => ?_)
  by_cases hb : b = a
  · rw [hb, upd_same] at q
    cases q
    rw [hb]
    exact exo_ok hxx
  rw [upd_ne hb] at q
  by_cases hbd : b = hp.objs.size
  · rw [hbd, upd_same] at q
    cases q
    rw [hbd]
    exact exd_ok hn (relO_put (fs := []) ry fun _ => True.intro)
  rw [upd_ne hbd] at q
  refine (I.hok b o q).stay (fun c v hc z => keep c v ?_ z) (fun c hc => ?_) fun c xs hc => ?_
  · rcases hc with hc | hc
    · exact hc ▸ hb
    · exact at_ne e hc exo_own
  · rw [upd_ne (at_ne e hc exo_own), upd_ne (ne_of_none hc hnd)]
    exact hc
  · rw [upd_ne (at_ne e hc exo_tup), upd_ne (ne_of_none hc hnd)]
    exact hc
/-- a further field -/
theorem st_next (SF : StoreFacts B bmB "object.__setattr__" "object") (Z : Xk X.K C newId bmB) (I : Inv X pins σ H s) (e : H a = some (exo a C (some dx))) (ed : H dx = some (exd dx fs)) (hl : fs.length ≤ 900) (ht : PySem.W.takerIn X.K C f = some none)
    (ry : RelV y u) (h : ∀ s', Inv X pins σ (upd H dx (exd dx ((f, y) :: fs))) s' → Q () s') : wpAny (model X.prog X.w) A (setAttr (.ref a) f u) Q E s := by
  obtain ⟨t1, ho⟩ := exo_at I.hok e
  obtain ⟨mA, hns, rel⟩ := exd_at I.hok ed
  have hw := within_of rel
  obtain ⟨cd, hc, hd⟩ := PySem.W.any_some Z.dct
  obtain ⟨hp, g, dr, t, os⟩ := s
  obtain ⟨oD, _, _, hoD, _, _⟩ := hns.count hw
  have J : PySem.W.InstAt hp a (PySem.W.excObj C t1 (some dx) .none) C (some oD) := ⟨ho, rfl, rfl, hoD⟩
  refine PySem.W.set_plain I.kIn J Z.sa ?_
  refine PySem.W.osa_openX SF I.kIn J Z.ovr ht fun b => ?_
  dsimp only
  unfold Builtin.ObjectAttr.storeInOwnDict Builtin.ObjectAttr.ownDictForStores
  unfold instanceDict
  refine wpAny_bind (wpAny_pure (wpAny_bind (wpAny_bind (wpAny_loadPart ho ?_))))
  dsimp only
  refine wpAny_bind ((PySem.W.looks_clsIn I.kIn hc).at ?_)
  rw [hd]
  refine wpAny_pure (a := some dx) ?_
  dsimp only
  refine PySem.OEX.store_in_old hns hw (by rw [List.length_map]; omega) fun h' tk' hn hs => ?_
  have there : ∃ o, h'.get? dx = some o := by
    obtain ⟨o, _, _, z, _⟩ := hn
    exact ⟨o, z⟩
  exact h _ (I.write (t' := tk') (x := dx) (e := dx) (o := exd dx ((f, y) :: fs)) (by rw [ed]; exact True.intro) (.inl rfl) (fun b o hb q => (hs.2 b hb).trans q) there (exd_ok hn (relO_put ry rel)))
end

/-- self.f = e, self the exception under way of the class C -/
def tXst (C : Addr) (f : Str) (to te : TE) : TS := fun D σ H => te σ H fun y H1 => to σ H1 fun x H2 => ∃ a, x = .ref a ∧
  ((H2 a = some (exo a C none) ∧ ∀ d, H2 d = none → d ≠ a → D.nx σ (upd (upd H2 d (exd d [(f, y)])) a (exo a C (some d)))) ∨
    ∃ dx fs, H2 a = some (exo a C (some dx)) ∧ H2 dx = some (exd dx fs) ∧ fs.length ≤ 900 ∧ D.nx σ (upd H2 dx (exd dx ((f, y) :: fs))))
theorem ps_xst {X : Cx} {B newId : String} {bmB : List Value} {C : Addr} {f : Str} {o e : Expr} {to te : TE} {p' pos : Pos} (SF : StoreFacts B bmB "object.__setattr__" "object") (Z : Xk X.K C newId bmB) (ht : PySem.W.takerIn X.K C f = some none)
    (ho : PE X o to) (he : PE X e te) (hs : swapsWith e (some (.Attribute o f p')) pos.line X.env = pure false := by rfl) : PS X (.Assign [.Attribute o f p'] e pos) (tXst C f to te) :=
  ⟨fun pins s σ H D I h => plainObj_wpAny_Assign_Attribute (thn (he.run pins s σ H _ I h) fun _ s1 ⟨y, H1, I1, r1, q1⟩ => thn (ho.run pins s1 σ H1 _ I1 q1) fun u s2 ⟨x, H2, I2, r2, a, ex, q⟩ => by
    subst ex
    obtain rfl : u = Value.ref a := r2
    rcases q with ⟨ea, q⟩ | ⟨dx, fs, ea, ed, hl, q⟩
    · exact st_first SF Z I2 ea ht r1 fun d s' n ne J => ⟨σ, _, J, q d n ne⟩
    · exact st_next SF Z I2 ea ed hl ht r1 fun s' J => ⟨σ, _, J, q⟩) hs⟩
/-- what such a class's __init__ does: its fields fs are set to the arguments, one by one -/
def spXi (C : Addr) (fs : List Str) : Sp := fun vs H Q _ => ∃ a ws, vs = .ref a :: ws ∧ ws.length = fs.length ∧ H a = some (exo a C none) ∧
  ∀ d, H d = none → d ≠ a → Q .non (upd (upd H d (exd d (fs.zip ws).reverse)) a (exo a C (some d)))
section
variable {P : Program} {w : World} {K : PySem.W.Frag} {mg : Str → Option Value} {base : Heap} {B newId : String} {bmB : List Value} {C f : Addr} {fd : FuncData} {params : Arguments} {scope : Scope} {dvs : List V} {kws : List (Str × V)} {a1 a2 a3 a4 b1 b2 b3 b4 : Pos} {S P1 P2 f1 f2 : Str} {x ql : Str}
theorem init1_ok (SF : StoreFacts B bmB "object.__setattr__" "object") (Z : Xk K C newId bmB) (h1 : PySem.W.takerIn K C f1 = some none)
    (F : FunD K x ql params [.Assign [.Attribute (.Name S a1) f1 a2] (.Name P1 a3) a4] scope dvs kws f fd) (sc : FnScope [S, P1] [S, P1] scope) (vS : Vis scope S) (v1 : Vis scope P1)
    (dS : (S == ("__debug__" : Str)) = false := by decide) (cS : (S == ("__classdict__" : Str)) = false := by decide) (d1 : (P1 == ("__debug__" : Str)) = false := by decide) (c1 : (P1 == ("__classdict__" : Str)) = false := by decide)
    (hs : ∀ env, swapsWith (.Name P1 a3) (some (.Attribute (.Name S a1) f1 a2)) a4.line env = pure false := by intro _; rfl) :
    FnOk P w K mg base (L2.CX P w) 1 f fd [S, P1] (spXi C [f1]) :=
  F.ok sc (fun vs H Q E ⟨a, ws, e1, e2, _⟩ => by rw [e1, List.length_cons, e2]; rfl) fun cdv A outer s H vs Q E hr ⟨a, ws, e1, e2, ea, q⟩ => by
    subst e1
    match ws, e2 with
    | [y], _ =>
      refine ⟨_, pss_one (ps_xst (X := cxOf (L2.CX P w) P w K mg base [S, P1] ql scope f cdv A outer s H E) SF Z h1 (pe_var (i := 0) rfl vS dS cS) (pe_var (i := 1) rfl v1 d1 c1) (hs _)), ?_⟩
      exact ⟨y, rfl, .ref a, rfl, a, rfl, .inl ⟨ea, fun d n ne => q d n ne⟩⟩
theorem init2_ok (SF : StoreFacts B bmB "object.__setattr__" "object") (Z : Xk K C newId bmB) (h1 : PySem.W.takerIn K C f1 = some none) (h2 : PySem.W.takerIn K C f2 = some none)
    (F : FunD K x ql params [.Assign [.Attribute (.Name S a1) f1 a2] (.Name P1 a3) a4, .Assign [.Attribute (.Name S b1) f2 b2] (.Name P2 b3) b4] scope dvs kws f fd) (sc : FnScope [S, P1, P2] [S, P1, P2] scope) (vS : Vis scope S) (v1 : Vis scope P1) (v2 : Vis scope P2)
    (dS : (S == ("__debug__" : Str)) = false := by decide) (cS : (S == ("__classdict__" : Str)) = false := by decide) (d1 : (P1 == ("__debug__" : Str)) = false := by decide) (c1 : (P1 == ("__classdict__" : Str)) = false := by decide)
    (d2 : (P2 == ("__debug__" : Str)) = false := by decide) (c2 : (P2 == ("__classdict__" : Str)) = false := by decide)
    (hs : ∀ env, swapsWith (.Name P1 a3) (some (.Attribute (.Name S a1) f1 a2)) a4.line env = pure false := by intro _; rfl)
    (hs2 : ∀ env, swapsWith (.Name P2 b3) (some (.Attribute (.Name S b1) f2 b2)) b4.line env = pure false := by intro _; rfl) :
    FnOk P w K mg base (L2.CX P w) 1 f fd [S, P1, P2] (spXi C [f1, f2]) :=
  F.ok sc (fun vs H Q E ⟨a, ws, e1, e2, _⟩ => by rw [e1, List.length_cons, e2]; rfl) fun cdv A outer s H vs Q E hr ⟨a, ws, e1, e2, ea, q⟩ => by
    subst e1
    match ws, e2 with
    | [y, z], _ =>
      refine ⟨_, pss_cons (ps_xst (X := cxOf (L2.CX P w) P w K mg base [S, P1, P2] ql scope f cdv A outer s H E) SF Z h1 (pe_var (i := 0) rfl vS dS cS) (pe_var (i := 1) rfl v1 d1 c1) (hs _)) (pss_one
        (ps_xst (X := cxOf (L2.CX P w) P w K mg base [S, P1, P2] ql scope f cdv A outer s H E) SF Z h2 (pe_var (i := 0) rfl vS dS cS) (pe_var (i := 2) rfl v2 d2 c2) (hs2 _))), ?_⟩
      refine ⟨y, rfl, .ref a, rfl, a, rfl, .inl ⟨ea, fun d n ne => ?_⟩⟩
      refine ⟨z, rfl, .ref a, rfl, a, rfl, .inr ⟨d, [(f1, y)], upd_same, ?_, by show 1 ≤ 900; decide, ?_⟩⟩
      · rw [upd_ne ne, upd_same]
      · have e : upd (upd (upd H d (exd d [(f1, y)])) a (exo a C (some d))) d (exd d [(f2, z), (f1, y)]) = upd (upd H d (exd d [(f2, z), (f1, y)])) a (exo a C (some d)) := by
          funext b
          by_cases hb : b = d
          · rw [hb, upd_same, upd_ne ne, upd_same]
          · rw [upd_ne hb]
            by_cases ha : b = a
            · rw [ha, upd_same, upd_same]
            · rw [upd_ne ha, upd_ne ha, upd_ne hb, upd_ne hb]
        rw [e]
        exact q d n ne
end

/-- C(e, ..): the exception with its fields -/
def tXmk (C : Addr) (fs : List Str) (ta : TA) : L2.St → Hp → XK → Prop := fun σ H Q => ta σ H fun vs H1 => vs.length = fs.length ∧ ∀ d, H1 d = none → Q (.ref C) (some d) (upd H1 d (.xd (fs.zip vs).reverse))
section
variable {X : Cx} {B newId initId : String} {bmB : List Value} {C fI : Addr} {k : Nat} {fd : FuncData} {ps fs : List Str} {x : Str} {p pos : Pos} {e : Expr} {es : List Expr} {ta : TA}
theorem pmk_x (FB : ExcBaseFacts B newId initId bmB) (Z : Xk X.K C newId bmB) (iC : PySem.W.findIn X.K (.ref C) "__init__" = some (some (.ref fI))) (tI : PySem.W.typeIn X.K (.ref fI) = some (.type "function"))
    (F1 : FnOk X.prog X.w X.K X.mg X.base (L2.CX X.prog X.w) k fI fd ps (spXi C fs)) (hr : Room (k + 1) X.A) (hps : ps.length = fs.length + 1) (hfs : fs.length ≤ 900) (hb : Binds X.K fd ps []) (hg : Gl X x) (hm : X.mg x = some (.ref C)) (ha : PA X (e :: es) ta)
    (hdb : (x == ("__debug__" : Str)) = false := by decide) (he : starEach (e :: es) X.env = (false, eval e X.env) :: starEach es X.env := by rfl) (hpl : (backTo pos (starEach es X.env)).any (·.1) = false := by rfl) :
    PMk X (.Call (.Name x p) (e :: es) [] pos) (tXmk C fs ta) := fun pins s σ H Q I h => by
  refine wpAny_Call_Name_kw (ld_glob I hg hm ?_ hdb)
  refine PySem.W.callWith_K (h₀ := X.base) I.ok.mod.kin Z.kC (thn (ha.run pos pins s σ H _ I h) fun us s1 ⟨vs, H1, I1, r1, hl, q1⟩ => ⟨I1.kIn, ?_⟩) he hpl
  obtain ⟨nm, N', qn, bs, bm, hdct, sn, sub, ab, col, dd, k0, k1, k2, k3, k5, hC, hT⟩ := PySem.W.excInit_of I1.kIn Z.ini
  show wpAny _ _ (call (.ref C) us) _ _ _
  obtain ⟨hp, g, dr, tk, os⟩ := s1
  have hsz : hp.objs.size ≤ hp.objs.size + 1 := Nat.le_succ _
  have n1 : H1 (hp.objs.size + 1) = none := I1.hok.fresh hsz
  have grow : ∀ b o, hp.get? b = some o → ((hp.push (PySem.W.kdv_tup us)).push (PySem.HandSPX.excO C hp.objs.size)).get? b = some o := fun b o z => Heap.get?_push_of_some _ (Heap.get?_push_of_some _ z)
  have new : ((hp.push (PySem.W.kdv_tup us)).push (PySem.HandSPX.excO C hp.objs.size)).get? (hp.objs.size + 1) = some (PySem.HandSPX.excO C hp.objs.size) := by heap_get
  have I2 := I1.laid (t' := tk) (a := hp.objs.size + 1) (o := exo (hp.objs.size + 1) C none) (h' := (hp.push (PySem.W.kdv_tup us)).push (PySem.HandSPX.excO C hp.objs.size)) grow hsz (exo_ok new)
  have lus : us.length = fs.length := (Paired.length r1).symm.trans hl
  have sz : us.length ≤ sizeLine := by rw [lus, sizeLine_eq]; omega
  have r2 : Vals (V.ref (hp.objs.size + 1) :: vs) (Value.ref (hp.objs.size + 1) :: us) := .cons rfl r1
  have bnd := hb ⟨(hp.push (PySem.W.kdv_tup us)).push (PySem.HandSPX.excO C hp.objs.size), g, dr, tk, os⟩ (Value.ref (hp.objs.size + 1) :: us) I2.kIn (by rw [List.append_nil, List.length_cons, lus, hps])
  rw [List.append_nil] at bnd
  refine wpAny_call (PySem.HandSPX.call_own FB hT hC (PySem.W.looks_findIn I1.kIn iC) (fun self => PySem.W.bind_fn I1.kIn self tI) sz (codeAny_mono (F1.run _ X.stack _ _ ⟨Value.ref (hp.objs.size + 1) :: us, []⟩ _ _
    (fun v H2 => v = .non ∧ ∃ d, H1 d = none ∧ d ≠ hp.objs.size + 1 ∧ H2 = upd (upd (upd H1 (hp.objs.size + 1) (exo (hp.objs.size + 1) C none)) d (exd d (fs.zip vs).reverse)) (hp.objs.size + 1) (exo (hp.objs.size + 1) C (some d)))
    (fun _ _ _ => False) (hr.make C us []) (I2.env0.make C us []) bnd r2 ⟨_, vs, rfl, hl, upd_same, fun d n ne => ⟨rfl, d, by rw [upd_ne ne] at n; exact n, ne, rfl⟩⟩) fun r s' z => ?_))
  cases r with
  | error er =>
    obtain ⟨_, _, _, _, _, _, _, _, _, _, _, _, bad⟩ := z
    exact bad.elim
  | ok fl =>
    cases fl with
    | ret u =>
      obtain ⟨v, H2, os2, bare2, un2, hok2, rv, ev, d, hd1, dne, rfl⟩ := z
      subst ev
      obtain ⟨h2, g2, d2, t2, os'⟩ := s'
      have ed : upd (upd (upd H1 (hp.objs.size + 1) (exo (hp.objs.size + 1) C none)) d (exd d (fs.zip vs).reverse)) (hp.objs.size + 1) (exo (hp.objs.size + 1) C (some d)) d = some (exd d (fs.zip vs).reverse) := by rw [upd_ne dne, upd_same]
      have heq : upd (del (upd (upd (upd H1 (hp.objs.size + 1) (exo (hp.objs.size + 1) C none)) d (exd d (fs.zip vs).reverse)) (hp.objs.size + 1) (exo (hp.objs.size + 1) C (some d))) (hp.objs.size + 1)) d (.xd (fs.zip vs).reverse) = upd H1 d (.xd (fs.zip vs).reverse) := by
        funext b
        by_cases hb : b = d
        · rw [hb, upd_same, upd_same]
        · rw [upd_ne hb, upd_ne hb]
          by_cases hb2 : b = hp.objs.size + 1
          · rw [hb2, del_same, n1]
          · rw [del_ne hb2, upd_ne hb2, upd_ne hb, upd_ne hb2]
      exact ⟨rv, mk_end (raises_own Z.exC Z.tyC) I1 hsz grow un2 hok2 os2 bare2 upd_same ed hd1 (by rw [heq]; exact q1 d hd1)⟩
    | next => exact False.elim z
    | brk => exact False.elim z
    | cont => exact False.elim z
end
/-- raise C(e, ..) -/
def sRaise (cl : Nat) (fs : List Str) (a : MA) : MS := fun s h => (a s h).bindS s fun xs h1 => if xs.length = fs.length then .ex ⟨cl, (fs.zip xs).reverse⟩ s h1 else .st
/-- raise C('..'), C without own __init__ -/
def sRaise0 (cl : Nat) : MS := fun s h => .ex ⟨cl, []⟩ s h
theorem repKV_append {w : Wd} {c : Cf} {κ : Type} : ∀ {l1 l2 : List (κ × D)} {v1 v2 : List (κ × V)}, RepKV w c l1 v1 → RepKV w c l2 v2 → RepKV w c (l1 ++ l2) (v1 ++ v2)
  | [], l2, v1, v2, r1, r2 => by
    obtain rfl : v1 = [] := by simpa [RepKV] using r1
    exact r2
  | d :: l1, l2, v1, v2, r1, r2 => by
    simp only [RepKV] at r1
    obtain ⟨x, xs, rfl, a, b⟩ := r1
    exact ⟨x, _, rfl, a, repKV_append b r2⟩
theorem repKV_zip {w : Wd} {c : Cf} : ∀ {fs : List Str} {xs : List D} {vs : List V}, RepL w c xs vs → xs.length = fs.length → RepKV w c (fs.zip xs).reverse (fs.zip vs).reverse
  | [], xs, vs, r, h => by simp [RepKV]
  | f :: fs, [], vs, r, h => by simp at h
  | f :: fs, d :: xs, vs, r, h => by
    simp only [RepL] at r
    obtain ⟨x, ys, rfl, a, b⟩ := r
    simp only [List.zip_cons_cons, List.reverse_cons]
    exact repKV_append (repKV_zip b (by simpa using h)) ⟨x, [], rfl, a, rfl⟩
section
variable {X : Cx} {W : WX} {T : Nat → Addr} {B newId initId : String} {bmB : List Value} {fI : Addr} {k cl : Nat} {fd : FuncData} {ps fs : List Str} {x m : Str} {p p2 pos pos2 : Pos} {e : Expr} {es : List Expr} {ma : MA} {j : Nat}
theorem s_raise (hc : X.calm = true) (tk : Takes X W) (hm : PMk X e (tXmk (T cl) fs (tA (Wd.mk X.K T) W ma))) : PS X (.Raise (some e) none pos) (tS (Wd.mk X.K T) W (sRaise cl fs ma)) :=
  PSi (ps_raise hc tk hm) fun D σ H ⟨c, s, h, R, S, o⟩ => ⟨c, s, h, R, S, (by
    simp only [sRaise] at o
    cases q : ma s h with
    | ok xs h1 =>
      rw [q] at o
      refine fun c1 vs H1 R1 E1 r1 => ?_
      by_cases hl : xs.length = fs.length
      · have o' : OutS (Wd.mk X.K T) c H W D (.ex ⟨cl, (fs.zip xs).reverse⟩ s h1) := by simpa only [Res.bindS, if_pos hl] using o
        refine ⟨r1.len.symm.trans hl, fun d hd => ?_⟩
        obtain ⟨R2, E2⟩ := R1.lay (u := .xd (fs.zip vs).reverse) hd (fun a v z => (upd_ne (ne_of_none z hd)).trans z) upd_same
        exact o' _ _ _ σ _ R2 (E1.trans E2) ((S.ext E1).ext E2) ⟨rfl, .inr ⟨d, _, rfl, upd_same, R1.noidNew hd, repKV_zip (r1.ext E2) hl⟩⟩
      · have o' : OutS (Wd.mk X.K T) c H W D .st := by simpa only [Res.bindS, if_neg hl] using o
        exact o'.elim
    | ex e h' =>
      rw [q] at o
      exact fun c' cls dd H' R' E' r' => o c' cls dd σ H' R' E' (S.ext E') r'
    | st => rw [q] at o; exact o.elim)⟩
theorem s_raise0 (hc : X.calm = true) (tk : Takes X W) (F : ExcBaseFacts B newId initId bmB) (q : PySem.W.excIn X.K (T cl) bmB newId = true) (gC : X.mg x = some (.ref (T cl))) (kC : PySem.W.keepIn X.K (.ref (T cl)) = true)
    (h1 : PySem.W.subIn X.K (.ref (T cl)) (.type "BaseException") = some true) (h2 : PySem.W.typeIn X.K (.ref (T cl)) = some (.type "type")) (hg : Gl X x) (hdb : (x == ("__debug__" : Str)) = false := by decide) :
    PS X (.Raise (some (.Call (.Name x p) [.Constant (.str m) j p2] [] pos)) none pos2) (tS (Wd.mk X.K T) W (sRaise0 cl)) :=
  PSi (ps_raise hc tk (pmk_own F q gC kC (raises_own h1 h2) hg hdb)) fun D σ H ⟨c, s, h, R, S, o⟩ => o c _ none σ H R (.refl R.sub) S ⟨rfl, .inl rfl⟩
end
end MP
set_option Elab.async false
set_option linter.all false
set_option maxRecDepth 100000
set_option maxHeartbeats 4000000
/-! mirrors: further facts of the head; try -/
namespace MP
open PySem PySem.Spec L2
open PyProof.Rows hiding St

/-! ### the head's hook with one more Bool -/
def hookE (n : Nat) (fa : List He.Fa) (fn : List He.DefD) (ex : PySem.W.Frag → Bool) : PySem.W.Hook where
  α := He.AlD × Bool
  obs := fun s => (He.obsDG n fa fn s.heap.get?, ex (He.frG s.heap.get? (He.asD s.heap.get? n)))
  val := fun _ => (He.valD fn, true)
  says := fun _ h => ∃ K : PySem.W.Frag, K.In h ∧ He.SaysD fa fn K ∧ ex K = true
  of := fun _ _ e => ⟨_, He.frG_in, congrArg (fun z : He.AlD × Bool => z.1) e, congrArg (fun z : He.AlD × Bool => z.2) e⟩
  keeps := fun _ _ _ ⟨K, hK, c⟩ k => ⟨K, PySem.W.Frag.In.keeps hK k, c⟩
def obsE (n : Nat) (fa : List He.Fa) (fn : List He.DefD) (ex : PySem.W.Frag → Bool) (g : Addr → Option Obj) : He.AlD × Bool := (He.obsDG n fa fn g, ex (He.frG g (He.asD g n)))
theorem obsE_eq {n : Nat} {fa : List He.Fa} {fn : List He.DefD} {ex : PySem.W.Frag → Bool} {g : Addr → Option Obj} {s : Shared} (h : ∀ a, g a = s.heap.get? a) : obsE n fa fn ex g = (hookE n fa fn ex).obs s := by
  obtain rfl : g = s.heap.get? := funext h
  rfl
/-- what else is to be told -/
inductive XFa where
  | xk (x : Str) (newId : String) (bmB : List Value)
  | nox (x : Str) (newId : String) (bmB : List Value)
  | tk (x f : Str)
  | ini (x : Str)
def XFa.ok (K : PySem.W.Frag) : XFa → Bool
  | .xk x newId bmB => PySem.W.excInitIn K (He.ga K x) bmB newId && (PySem.W.excOver K (He.ga K x) bmB && (decide (PySem.W.findIn K (.ref (He.ga K x)) "__setattr__" = some (some (.builtin "object.__setattr__"))) && (PySem.W.hasDictIn K (He.ga K x) &&
      (decide (PySem.W.subIn K (.ref (He.ga K x)) (.type "BaseException") = some true) && (decide (PySem.W.typeIn K (.ref (He.ga K x)) = some (.type "type")) && PySem.W.keepIn K (.ref (He.ga K x)))))))
  | .nox x newId bmB => PySem.W.excIn K (He.ga K x) bmB newId && (PySem.W.keepIn K (.ref (He.ga K x)) && (decide (PySem.W.subIn K (.ref (He.ga K x)) (.type "BaseException") = some true) && decide (PySem.W.typeIn K (.ref (He.ga K x)) = some (.type "type"))))
  | .tk x f => decide (PySem.W.takerIn K (He.ga K x) f = some none)
  | .ini x => decide (PySem.W.findIn K (.ref (He.ga K x)) "__init__" = some (some (.ref (He.fAd K (x, some "__init__"))))) && decide (PySem.W.typeIn K (.ref (He.fAd K (x, some "__init__"))) = some (.type "function"))
def xAll (xs : List XFa) (K : PySem.W.Frag) : Bool := xs.all fun f => f.ok K
section
variable {K : PySem.W.Frag} {x f : Str} {newId : String} {bmB : List Value} {xs : List XFa}
theorem xAll_at (h : xAll xs K = true) (i : Nat) {f : XFa} (e : xs[i]? = some f := by rfl) : f.ok K = true := List.all_eq_true.mp h f (List.mem_of_getElem? e)
theorem xk_ok (h : (XFa.xk x newId bmB).ok K = true) : Xk K (He.ga K x) newId bmB := by
  simp only [XFa.ok, Bool.and_eq_true, decide_eq_true_eq] at h
  obtain ⟨h1, h2, h3, h4, h5, h6, h7⟩ := h
  exact ⟨h1, h2, h3, h4, h5, h6, h7⟩
theorem tk_ok (h : (XFa.tk x f).ok K = true) : PySem.W.takerIn K (He.ga K x) f = some none := of_decide_eq_true h
theorem ini_ok1 (h : (XFa.ini x).ok K = true) : PySem.W.findIn K (.ref (He.ga K x)) "__init__" = some (some (.ref (He.fAd K (x, some "__init__")))) := of_decide_eq_true (Bool.and_eq_true_iff.mp h).1
theorem ini_ok2 (h : (XFa.ini x).ok K = true) : PySem.W.typeIn K (.ref (He.fAd K (x, some "__init__"))) = some (.type "function") := of_decide_eq_true (Bool.and_eq_true_iff.mp h).2
structure Nox (K : PySem.W.Frag) (C : Addr) (newId : String) (bmB : List Value) : Prop where
  q : PySem.W.excIn K C bmB newId = true
  kC : PySem.W.keepIn K (.ref C) = true
  h1 : PySem.W.subIn K (.ref C) (.type "BaseException") = some true
  h2 : PySem.W.typeIn K (.ref C) = some (.type "type")
theorem nox_ok (h : (XFa.nox x newId bmB).ok K = true) : Nox K (He.ga K x) newId bmB := by
  simp only [XFa.ok, Bool.and_eq_true, decide_eq_true_eq] at h
  obtain ⟨h1, h2, h3, h4⟩ := h
  exact ⟨h1, h2, h3, h4⟩
end

/-! ### try: body, except x: suite -/
/-- a suite lets nothing out -/
def noEx : RS → RS
  | .ex _ _ _ => .st
  | r => r
theorem OutS.noEx {w : Wd} {c : Cf} {H : Hp} {W W' : WX} {D : Ends} {r : RS} (o : OutS w c H W D (noEx r)) : OutS w c H W' D r := by
  cases r with
  | ex e s h => exact o.elim
  | nx s h => exact o
  | rt d h => exact o
  | bk s h => exact o
  | ct s h => exact o
  | st => exact o
theorem OutS.shift' {w : Wd} {c c' : Cf} {H H' : Hp} {W : WX} {D : Ends} {r : RS} (o : OutS w c H W D r) (e : Ext c H c' H') : OutS w c' H' W D r := OutS.shift e o
def sTryO (cs : List (Nat × Bool)) (b hnd : MS) : MS := fun s h => match b s h with
  | .ex e s' h' => match cs.lookup e.c with
    | some true => noEx (hnd s' h')
    | some false => .ex e s' h'
    | none => .st
  | r => r
section
variable {X : Cx} {W : WX} {T : Nat → Addr} {x : Str} {cx : Addr} {body suite : List Stmt} {b₀ : Stmt} {np pos pos' : Pos} {mb mh : MS} {cs : List (Nat × Bool)}
theorem lookup_fact {K : PySem.W.Frag} {c : Value} : ∀ {cs : List (Nat × Bool)} {k : Nat} {b : Bool}, (∀ p ∈ cs, PySem.W.exmOne K (.ref (T p.1)) c = some p.2) → cs.lookup k = some b → PySem.W.exmOne K (.ref (T k)) c = some b
  | (j, v) :: r, k, b, h, e => by
    by_cases z : k = j
    · subst z
      have e2 : v = b := by simpa [List.lookup] using e
      subst e2
      exact h (k, v) List.mem_cons_self
    · have e2 : r.lookup k = some b := by
        have : (k == j) = false := by simp [z]
        simpa [List.lookup, this] using e
      exact lookup_fact (fun p hp => h p (List.mem_cons_of_mem _ hp)) e2
theorem s_tryO (hs : X.stack = X.env :: X.outer) (hf : X.env.frame = some X.env.locals) (hc : Names X x (.ref cx)) (tk : Takes X W) (he : ∀ p ∈ cs, PySem.W.exmOne X.K (.ref (T p.1)) (.ref cx) = some p.2)
    (hb : ∀ (W' : WX) (pn : List (Addr × Obj)) (xe : Value → Shared → Prop), Takes (X.tr pn xe) W' → PassesOwn (model X.prog X.w) X.A X.env xe → PSs (X.tr pn xe) body (tS (Wd.mk X.K T) W' mb))
    (hsu : ∀ (a : Addr) (oe : Obj) (pn : List (Addr × Obj)), PSs (X.suite a ((a, oe) :: pn)) (b₀ :: suite) (tS (Wd.mk X.K T) (fun _ _ _ _ => False) mh)) :
    PS X (.Try body [.ExceptHandler (some (.Name x np)) none (b₀ :: suite) pos'] [] [] pos) (tS (Wd.mk X.K T) W (sTryO cs mb mh)) :=
  PSi (ps_try_only (tb := fun W' => tS (Wd.mk X.K T) W' mb) (ts := fun _ _ _ => tS (Wd.mk X.K T) (fun _ _ _ _ => False) mh) (Wout := W) hs hf hc tk hb (fun a oe cls d pn _ _ => hsu a oe pn)) fun D σ H ⟨c, s, h, R, S, o⟩ => ⟨c, s, h, R, S, (by
    simp only [sTryO] at o
    cases q : mb s h with
    | ex e s' h' =>
      rw [q] at o
      dsimp only at o
      intro c' cls dd σ' H' R' E' S' r'
      obtain ⟨rfl, r2⟩ := r'
      cases z : cs.lookup e.c with
      | none => rw [z] at o; exact o.elim
      | some b =>
        rw [z] at o
        refine ⟨b, lookup_fact he z, fun hb1 a ha => ?_, fun hb0 => ?_⟩
        · subst hb1
          dsimp only at o
          exact ⟨c', s', h', R', S', o.noEx.shift' E'⟩
        · subst hb0
          dsimp only at o
          exact o c' _ dd σ' H' R' E' S' ⟨rfl, r2⟩
    | nx s' h' => rw [q] at o; exact o
    | rt d h' => rw [q] at o; exact o
    | bk s' h' => rw [q] at o; exact o
    | ct s' h' => rw [q] at o; exact o
    | st => rw [q] at o; exact o)⟩
end

/-! ### any, all of a list of truths -/
def blsL : List D → Option (List Bool)
  | [] => some []
  | .bl b :: r => (match blsL r with
    | some l => some (b :: l)
    | none => none)
  | _ => none
def fAny (h : AH) : List D → Option D
  | [x] => match seqL h x with
    | some xs => (match blsL xs with
      | some bs => some (.bl (bs.any id))
      | none => none)
    | none => none
  | _ => none
def fAll (h : AH) : List D → Option D
  | [x] => match seqL h x with
    | some xs => (match blsL xs with
      | some bs => some (.bl (bs.all id))
      | none => none)
    | none => none
  | _ => none
theorem blsL_ok {w : Wd} {c : Cf} : ∀ {xs : List D} {vs : List V} {bs : List Bool}, RepL w c xs vs → blsL xs = some bs → vs = bs.map V.bl
  | [], vs, bs, r, e => by
    cases e
    simpa [RepL] using r
  | d :: xs, vs, bs, r, e => by
    cases d with
    | bl b =>
      simp only [blsL] at e
      split at e
      · rename_i l e2
        cases e
        simp only [RepL] at r
        obtain ⟨x, ys, rfl, r1, r2⟩ := r
        rw [rp_bl r1, blsL_ok r2 e2]
        rfl
      · cases e
    | _ => cases e
section
variable {w : Wd}
theorem n_any : OpN w (rAny w.K) fAny := by
  intro c h H xs z vs Q R r e G
  unfold fAny at e
  split at e
  · obtain ⟨v, rfl, rv⟩ := rpl1 r
    split at e
    · rename_i ys q
      split at e
      · rename_i bs q2
        cases e
        obtain ⟨a, us, rfl, t, rl⟩ := seqL_ok R rv q
        exact ⟨a, bs, rfl, by rw [← blsL_ok rl q2]; exact t, G.bl R⟩
      · cases e
    · cases e
  · cases e
theorem n_all : OpN w (rAll w.K) fAll := by
  intro c h H xs z vs Q R r e G
  unfold fAll at e
  split at e
  · obtain ⟨v, rfl, rv⟩ := rpl1 r
    split at e
    · rename_i ys q
      split at e
      · rename_i bs q2
        cases e
        obtain ⟨a, us, rfl, t, rl⟩ := seqL_ok R rv q
        exact ⟨a, bs, rfl, by rw [← blsL_ok rl q2]; exact t, G.bl R⟩
      · cases e
    · cases e
  · cases e
end
end MP
set_option Elab.async false
set_option linter.all false
set_option maxRecDepth 100000
namespace K34
open PySem PySem.Spec L2 MP
open PyProof.Rows hiding St
/-- is_whole -/
def b_is_whole : MS := sRet (eAnd (eIsi "int" (eVar 0)) (eNot (eIsi "bool" (eVar 0))))
def f_is_whole : MF := fnM 1 1 b_is_whole
/-- is_within -/
def b_is_within : MS := sRet (eAnd (eCall f_is_whole 1 0 [(.us, 0)] [] [] (aCons (eVar 0) (aNil)) (aNil)) (eChain pLe pLe (eVar 1) (eVar 0) (eVar 2)))
def f_is_within : MF := fnM 3 3 b_is_within
/-- Clock.__init__ -/
def b_Clock_init : MS := sSeq (sFld [1] "slack" (eVar 0) (eVar 1)) (sSeq (sFld [1] "shift" (eVar 0) (eC (.int 0))) (sFld [1] "floor" (eVar 0) (eC .non)))
def f_Clock_init : MF := fnM 2 2 b_Clock_init
/-- Clock.lag -/
def b_Clock_lag : MS := sRet (eFld [1] "shift" (eVar 0))
def f_Clock_lag : MF := fnM 1 1 b_Clock_lag
/-- Clock.reading -/
def b_Clock_reading : MS := sSeq (sIf (tstB (eBin pIs (eFld [1] "floor" (eVar 0)) (eC .non))) (sRet (eBin pAdd (eVar 1) (eFld [1] "shift" (eVar 0)))) (sNil)) (sRet (eFn fMax2 (aCons (eBin pAdd (eVar 1) (eFld [1] "shift" (eVar 0))) (aCons (eFld [1] "floor" (eVar 0)) (aNil)))))
def f_Clock_reading : MF := fnM 2 2 b_Clock_reading
/-- Clock.put -/
def b_Clock_put : MS := sSeq (sIf (tNot (tst (eCall f_is_within 3 0 [(.us, 0), (.us, 1), (.us, 2)] [] [] (aCons (eVar 2) (aCons (eUn pNeg (eFld [1] "slack" (eVar 0))) (aCons (eFld [1] "slack" (eVar 0)) (aNil)))) (aNil)))) (sRaise 0 ["asked", "slack"] (aCons (eVar 2) (aCons (eFld [1] "slack" (eVar 0)) (aNil)))) (sNil)) (sAsg (eTup (aCons (eMeth 1 "reading" f_Clock_reading 1 0 [(.us, 0), (.us, 1)] [] [] (eVar 0) (aCons (eVar 1) (aNil)) (aNil)) (aCons (eVar 2) (aNil)))) (gTp 2 (gsCons (gFld [1] "floor" (eVar 0)) (gsCons (gFld [1] "shift" (eVar 0)) (gsNil)))))
def f_Clock_put : MF := fnM 3 3 b_Clock_put
/-- _law_bag -/
def b_law_bag : MS := sSeq (sSet 2 (eBin pAdd (eBin pMul (eC (.int 5081)) (eVar 1)) (eC (.int 3)))) (sSeq (sIf (tstB (eBin pLt (eVar 1) (eFn fLen (aCons (eVar 0) (aNil))))) (sSet 2 (eBin pIx (eVar 0) (eVar 1))) (sNil)) (sRet (eLstN (aCons (eBin pMul (eFn fAbs (aCons (eVar 2) (aNil))) (eFn fInt (aCons (eBin pGe (eFn fAbs (aCons (eVar 2) (aNil))) (eBin pPow (eC (.int 10)) (eC (.int 18)))) (aNil)))) (aCons (eBin pAdd (eBin pMod (eVar 2) (eC (.int 2147483587))) (eBin pMul (eC (.int 40009)) (eVar 1))) (aCons (eC (.int 0)) (aNil)))))))
def f_law_bag : MF := fnM 2 3 b_law_bag
/-- _law_take -/
def R_law_take_1_5 : MS := sSeq (sSet 6 (eBin pMod (eBin pPow (eVar 5) (eC (.int 3))) (eBin pIx (eVar 3) (eBin pMod (eVar 4) (eC (.int 8)))))) (sRet (eBin pMod (eBin pDiv (eBin pMod (eBin pMul (eVar 6) (eBin pAdd (eBin pDiv (eVar 6) (eC (.int 8192))) (eC (.int 11)))) (eBin pIx (eVar 3) (eBin pMod (eBin pAdd (eVar 4) (eC (.int 3))) (eC (.int 8))))) (eC (.int 32))) (eVar 1)))
def R_law_take_1_4 : MS := sSeq (sSet 5 (eBin pAdd (eBin pMul (eBin pAdd (eBin pIx (eVar 0) (eC (.int 1))) (eC (.int 1))) (eBin pAdd (eBin pMul (eC (.int 2)) (eVar 4)) (eC (.int 3)))) (eBin pMul (eBin pMul (eC (.int 6007)) (eVar 4)) (eVar 4)))) (R_law_take_1_5)
def R_law_take_1_3 : MS := sSeq (sSet 4 (eBin pIx (eVar 0) (eC (.int 2)))) (R_law_take_1_4)
def R_law_take_1_2 : MS := sSeq (sAsg (eBin pAdd (eBin pIx (eVar 0) (eC (.int 2))) (eC (.int 1))) (gIx (eVar 0) (eC (.int 2)))) (R_law_take_1_3)
def R_law_take_1_1 : MS := sSeq (sSet 3 (eTup (aCons (eC (.int 2147483647)) (aCons (eC (.int 2147483629)) (aCons (eC (.int 2147483587)) (aCons (eC (.int 2147483579)) (aCons (eC (.int 2147483563)) (aCons (eC (.int 2147483549)) (aCons (eC (.int 2147483543)) (aCons (eC (.int 2147483497)) (aNil))))))))))) (R_law_take_1_2)
def b_law_take : MS := sSeq (sIf (tstB (eBin pGt (eBin pIx (eVar 0) (eC (.int 0))) (eC (.int 0)))) (sSeq (sSet 2 (eBin pMod (eBin pIx (eVar 0) (eC (.int 0))) (eVar 1))) (sSeq (sAsg (eBin pDiv (eBin pIx (eVar 0) (eC (.int 0))) (eVar 1)) (gIx (eVar 0) (eC (.int 0)))) (sRet (eVar 2)))) (sNil)) (R_law_take_1_1)
def f_law_take : MF := fnM 2 7 b_law_take
/-- _law_put -/
def b_law_put : MS := sSeq (sTryO [(0, true)] (sExp (eMeth 1 "put" f_Clock_put 1 1 [(.us, 0), (.us, 1), (.ws, 0)] [] [] (eVar 0) (aCons (eVar 1) (aNil)) (aCons (eVar 2) (aNil)))) (sRet (eC (.bl false)))) (sRet (eC (.bl true)))
def f_law_put : MF := fnM 3 3 b_law_put
/-- law -/
def R_law_1_8 : MS := sSeq (sIf (tOr (tstB (eBin pLt (eBin pIx (eVar 11) (eC (.int 0))) (eBin pIx (eVar 6) (eC (.int 0))))) (tstB (eBin pLt (eBin pIx (eVar 11) (eC (.int 1))) (eBin pIx (eVar 6) (eC (.int 1)))))) (sRet (eC (.bl false))) (sNil)) (sSet 6 (eVar 11))
def R_law_1_7 : MS := sSeq (sIf (tOr (tst (eFn fAny (aCons (eComp [13] (iSeq (eVar 11)) (.one 13) (tYesD) (eBin pGt (eFn fAbs (aCons (eBin pSub (eVar 13) (eVar 5)) (aNil))) (eVar 3))) (aNil)))) (tstB (eBin pGt (eFn fAbs (aCons (eBin pSub (eBin pIx (eVar 11) (eC (.int 0))) (eBin pIx (eVar 11) (eC (.int 1)))) (aNil))) (eBin pMul (eC (.int 2)) (eVar 3))))) (sRet (eC (.bl false))) (sNil)) (R_law_1_8)
def R_law_1_6 : MS := sSeq (sSet 11 (eComp [12] (iSeq (eVar 4)) (.one 12) (tYesD) (eMeth 1 "reading" f_Clock_reading 1 0 [(.us, 0), (.us, 1)] [] [] (eVar 12) (aCons (eVar 5) (aNil)) (aNil)))) (R_law_1_7)
def R_law_1_5 : MS := sSeq (sIf (tstB (eBin pNe (eLst (aCons (eMeth 1 "lag" f_Clock_lag 0 0 [(.us, 0)] [] [] (eBin pIx (eVar 4) (eBin pSub (eC (.int 1)) (eVar 8))) (aNil) (aNil)) (aCons (eMeth 1 "reading" f_Clock_reading 1 0 [(.us, 0), (.us, 1)] [] [] (eBin pIx (eVar 4) (eBin pSub (eC (.int 1)) (eVar 8))) (aCons (eVar 5) (aNil)) (aNil)) (aNil)))) (eVar 9))) (sRet (eC (.bl false))) (sNil)) (R_law_1_6)
def R_law_1_4 : MS := sSeq (sIf (tAnd (tstB (eBin pGt (eCall f_law_take 2 0 [(.us, 0), (.us, 1)] [] [] (aCons (eVar 2) (aCons (eC (.int 3)) (aNil))) (aNil)) (eC (.int 0)))) (tstB (eBin pNe (eCall f_law_put 3 0 [(.us, 0), (.us, 1), (.us, 2)] [] [] (aCons (eBin pIx (eVar 4) (eVar 8)) (aCons (eVar 5) (aCons (eVar 10) (aNil)))) (aNil)) (eBin pLe (eVar 10) (eVar 3))))) (sRet (eC (.bl false))) (sNil)) (R_law_1_5)
def R_law_1_3 : MS := sSeq (sSet 10 (eBin pIx (eLst (aCons (eVar 3) (aCons (eBin pSub (eC (.int 0)) (eVar 3)) (aCons (eBin pSub (eCall f_law_take 2 0 [(.us, 0), (.us, 1)] [] [] (aCons (eVar 2) (aCons (eBin pAdd (eBin pMul (eC (.int 2)) (eVar 3)) (eC (.int 1))) (aNil))) (aNil)) (eVar 3)) (aCons (eBin pAdd (eVar 3) (eC (.int 1))) (aNil)))))) (eCall f_law_take 2 0 [(.us, 0), (.us, 1)] [] [] (aCons (eVar 2) (aCons (eC (.int 4)) (aNil))) (aNil)))) (R_law_1_4)
def R_law_1_2 : MS := sSeq (sSet 9 (eLst (aCons (eMeth 1 "lag" f_Clock_lag 0 0 [(.us, 0)] [] [] (eBin pIx (eVar 4) (eBin pSub (eC (.int 1)) (eVar 8))) (aNil) (aNil)) (aCons (eMeth 1 "reading" f_Clock_reading 1 0 [(.us, 0), (.us, 1)] [] [] (eBin pIx (eVar 4) (eBin pSub (eC (.int 1)) (eVar 8))) (aCons (eVar 5) (aNil)) (aNil)) (aNil))))) (R_law_1_3)
def R_law_1_1 : MS := sSeq (sSet 8 (eCall f_law_take 2 0 [(.us, 0), (.us, 1)] [] [] (aCons (eVar 2) (aCons (eC (.int 2)) (aNil))) (aNil))) (R_law_1_2)
def L_law_9 : MS := sSeq (sSet 5 (eBin pAdd (eVar 5) (eBin pIx (eLst (aCons (eC (.int 0)) (aCons (eC (.int 1)) (aCons (eCall f_law_take 2 0 [(.us, 0), (.us, 1)] [] [] (aCons (eVar 2) (aCons (eC (.int 9)) (aNil))) (aNil)) (aCons (eCall f_law_take 2 0 [(.us, 0), (.us, 1)] [] [] (aCons (eVar 2) (aCons (eC (.int 25000)) (aNil))) (aNil)) (aNil)))))) (eCall f_law_take 2 0 [(.us, 0), (.us, 1)] [] [] (aCons (eVar 2) (aCons (eC (.int 4)) (aNil))) (aNil))))) (R_law_1_1)
def R_law_2_4 : MS := sSeq (sSet 6 (eComp [12] (iSeq (eVar 4)) (.one 12) (tYesD) (eMeth 1 "reading" f_Clock_reading 1 0 [(.us, 0), (.us, 1)] [] [] (eVar 12) (aCons (eVar 5) (aNil)) (aNil)))) (sFor (iRng1 (eBin pAdd (eC (.int 4)) (eCall f_law_take 2 0 [(.us, 0), (.us, 1)] [] [] (aCons (eVar 2) (aCons (eC (.int 24)) (aNil))) (aNil)))) (gNm 7) (L_law_9))
def R_law_2_3 : MS := sSeq (sSet 5 (eBin pIx (eLst (aCons (eC (.int 0)) (aCons (eBin pSub (eCall f_law_take 2 0 [(.us, 0), (.us, 1)] [] [] (aCons (eVar 2) (aCons (eC (.int 2000)) (aNil))) (aNil)) (eC (.int 1000))) (aCons (eBin pSub (eC (.int 0)) (eCall f_law_take 2 0 [(.us, 0), (.us, 1)] [] [] (aCons (eVar 2) (aCons (eBin pPow (eC (.int 10)) (eC (.int 11))) (aNil))) (aNil))) (aNil))))) (eCall f_law_take 2 0 [(.us, 0), (.us, 1)] [] [] (aCons (eVar 2) (aCons (eC (.int 3)) (aNil))) (aNil)))) (R_law_2_4)
def R_law_2_2 : MS := sSeq (sSet 4 (eLst (aCons (eMake 1 f_Clock_init 0 1 [(.us, 0), (.ws, 0)] [] [] (aNil) (aCons (eVar 3) (aNil))) (aCons (eMake 1 f_Clock_init 0 1 [(.us, 0), (.ws, 0)] [] [] (aNil) (aCons (eVar 3) (aNil))) (aNil))))) (R_law_2_3)
def R_law_2_1 : MS := sSeq (sSet 3 (eBin pIx (eLst (aCons (eC (.int 0)) (aCons (eBin pAdd (eC (.int 1)) (eCall f_law_take 2 0 [(.us, 0), (.us, 1)] [] [] (aCons (eVar 2) (aCons (eC (.int 5)) (aNil))) (aNil))) (aCons (eCall f_law_take 2 0 [(.us, 0), (.us, 1)] [] [] (aCons (eVar 2) (aCons (eC (.int 10000)) (aNil))) (aNil)) (aCons (eC (.int 9999)) (aNil)))))) (eCall f_law_take 2 0 [(.us, 0), (.us, 1)] [] [] (aCons (eVar 2) (aCons (eC (.int 4)) (aNil))) (aNil)))) (R_law_2_2)
def L_law_14 : MS := sSeq (sSet 2 (eCall f_law_bag 2 0 [(.us, 0), (.us, 1)] [] [] (aCons (eVar 0) (aCons (eVar 1) (aNil))) (aNil))) (R_law_2_1)
def b_law : MS := sSeq (sFor (iRng1 (eFn fMax2 (aCons (eC (.int 1)) (aCons (eFn fMin2 (aCons (eC (.int 4)) (aCons (eFn fLen (aCons (eVar 0) (aNil))) (aNil)))) (aNil))))) (gNm 1) (L_law_14)) (sRet (eC (.bl true)))
def f_law : MF := fnM 1 14 b_law
theorem Clock_get_slack (x0 x1 x2 : D) : List.lookup ("slack" : Str) ([("slack", x0), ("shift", x1), ("floor", x2)] : List (Str × D)) = some x0 := rfl
theorem Clock_set_slack (v x0 x1 x2 : D) : putFD "slack" v ([("slack", x0), ("shift", x1), ("floor", x2)] : List (Str × D)) = ([("slack", v), ("shift", x1), ("floor", x2)] : List (Str × D)) := rfl
theorem Clock_put_0 (x0 : D) : putFD "slack" x0 ([] : List (Str × D)) = ([("slack", x0)] : List (Str × D)) := rfl
theorem Clock_get_shift (x0 x1 x2 : D) : List.lookup ("shift" : Str) ([("slack", x0), ("shift", x1), ("floor", x2)] : List (Str × D)) = some x1 := rfl
theorem Clock_set_shift (v x0 x1 x2 : D) : putFD "shift" v ([("slack", x0), ("shift", x1), ("floor", x2)] : List (Str × D)) = ([("slack", x0), ("shift", v), ("floor", x2)] : List (Str × D)) := rfl
theorem Clock_put_1 (x0 x1 : D) : putFD "shift" x1 ([("slack", x0)] : List (Str × D)) = ([("slack", x0), ("shift", x1)] : List (Str × D)) := rfl
theorem Clock_get_floor (x0 x1 x2 : D) : List.lookup ("floor" : Str) ([("slack", x0), ("shift", x1), ("floor", x2)] : List (Str × D)) = some x2 := rfl
theorem Clock_set_floor (v x0 x1 x2 : D) : putFD "floor" v ([("slack", x0), ("shift", x1), ("floor", x2)] : List (Str × D)) = ([("slack", x0), ("shift", x1), ("floor", v)] : List (Str × D)) := rfl
theorem Clock_put_2 (x0 x1 x2 : D) : putFD "floor" x2 ([("slack", x0), ("shift", x1)] : List (Str × D)) = ([("slack", x0), ("shift", x1), ("floor", x2)] : List (Str × D)) := rfl
theorem Clock_no_lag (x0 x1 x2 : D) : List.lookup ("lag" : Str) ([("slack", x0), ("shift", x1), ("floor", x2)] : List (Str × D)) = none := rfl
theorem Clock_no_reading (x0 x1 x2 : D) : List.lookup ("reading" : Str) ([("slack", x0), ("shift", x1), ("floor", x2)] : List (Str × D)) = none := rfl
theorem Clock_no_put (x0 x1 x2 : D) : List.lookup ("put" : Str) ([("slack", x0), ("shift", x1), ("floor", x2)] : List (Str × D)) = none := rfl
theorem try_0_0 : List.lookup (0 : Nat) ([(0, true)] : List (Nat × Bool)) = some true := rfl
end K34
set_option Elab.async false
set_option linter.all false
set_option maxRecDepth 100000
set_option maxHeartbeats 4000000
namespace K34
open PySem PySem.Spec L2 MP
theorem e_take : f_law_take = f_take := rfl
theorem e_bag : f_law_bag = f_bagA := rfl
theorem within_eq (x lo hi : Int) (h : AH) : f_is_within [.int x, .int lo, .int hi] h = .ok (.bl (decide (lo ≤ x ∧ x ≤ hi))) h := by
  simp (disch := omega) only [fnM, eVar, eC, eBin, eUn, aNil, aCons, eTup, eLst, eLstN, eFn, eIf, eFld, eCall, eMeth, eMake, insOf, tst, tstB, MP.tAnd, MP.tOr, MP.tNot, eAnd, eOr, eNot, eChain, truth, optR, Res.bind, Res.bindS, sNil, sSeq, sExp, sRet, sRetN, sIf, sAsg, sSet, sPar, MP.sFld, MP.sFldAug, sFor, nxO, gNm, gFld, gIx, setIx, setFld, gsNil, gsCons, gTp, gLs, MP.iRng1, MP.iRng2, iSeq, iLst, MP.iTup, seqL, seqM, seqT, seqX, eIsi, tyName, isi_ii, isi_ib, isi_bi, isi_bb, isi_ni, isi_si, isi_ss, isi_is, isi_tt, isi_ti, isi_li, pAdd, pSub, pMul_ok, pDiv_ok, pMod_ok, pNeg, pLt, pLe, pGt, pGe, pEq, pNe, pEqB, sEq, pIs, pIsNot, isNon, pIx, fAbs, fMax2, fMin2, fInt, fLen, gSel, pick, AH.put_g, AH.put_n, AH.new_g, AH.new_n, AH.put_same, AH.new_same, AH.put_put, AH.new_put, List.length_cons, List.length_nil, List.map_cons, List.map_nil, List.cons_append, List.nil_append, List.append_nil, List.replicate, List.getElem?_cons_zero, List.getElem?_cons_succ, List.getElem?_nil, List.set_cons_zero, List.set_cons_succ, List.flatMap_cons, List.flatMap_nil, List.drop_zero, List.drop_succ_cons, List.drop_nil, List.take_succ_cons, List.take_zero, List.take_nil, List.contains_cons, List.contains_nil, Bool.or_false, Bool.or_true, Bool.true_or, Bool.false_or, Bool.and_true, Bool.and_false, Bool.not_true, Bool.not_false, beq_self_eq_true, Nat.reduceAdd, Nat.reduceSub, Nat.reduceLeDiff, Nat.reduceLT, Nat.reduceEqDiff, Nat.reduceBEq, Int.reduceToNat, ↓reduceIte, reduceIte, Bool.false_eq_true, ne_true_f, pow10_18, pow10_10, pow10_11, pow10_6, decide_eq_true_eq, and_self, and_true, true_and, Nat.zero_le, Option.map_some, Option.map_none, Option.bind_some, Int.reduceLT, Int.reduceLE, Int.reduceNeg, decide_true, decide_false, ixN_0, ixN_1, ixN_2, ixN_3, ixN_m1, atI_1, atI_2, atI_3, eq_self, Option.some.injEq, false_and, atI_0, Nat.zero_add, Nat.add_zero, sRaise, sRaise0, sTryO, noEx, fAny, fAll, blsL, compL, wipeD, CT.set, eComp, eCompN, tYesD, lstOk, List.any_cons, List.any_nil, List.all_cons, List.all_nil, id, List.length_append, List.zip_cons_cons, List.zip_nil_left, List.reverse_cons, List.reverse_nil, Clock_get_slack, Clock_set_slack, Clock_put_0, Clock_get_shift, Clock_set_shift, Clock_put_1, Clock_get_floor, Clock_set_floor, Clock_put_2, Clock_no_lag, Clock_no_reading, Clock_no_put, try_0_0, f_is_within, b_is_within, f_is_whole, b_is_whole]
  by_cases h1 : lo ≤ x
  · simp (disch := omega) only [fnM, eVar, eC, eBin, eUn, aNil, aCons, eTup, eLst, eLstN, eFn, eIf, eFld, eCall, eMeth, eMake, insOf, tst, tstB, MP.tAnd, MP.tOr, MP.tNot, eAnd, eOr, eNot, eChain, truth, optR, Res.bind, Res.bindS, sNil, sSeq, sExp, sRet, sRetN, sIf, sAsg, sSet, sPar, MP.sFld, MP.sFldAug, sFor, nxO, gNm, gFld, gIx, setIx, setFld, gsNil, gsCons, gTp, gLs, MP.iRng1, MP.iRng2, iSeq, iLst, MP.iTup, seqL, seqM, seqT, seqX, eIsi, tyName, isi_ii, isi_ib, isi_bi, isi_bb, isi_ni, isi_si, isi_ss, isi_is, isi_tt, isi_ti, isi_li, pAdd, pSub, pMul_ok, pDiv_ok, pMod_ok, pNeg, pLt, pLe, pGt, pGe, pEq, pNe, pEqB, sEq, pIs, pIsNot, isNon, pIx, fAbs, fMax2, fMin2, fInt, fLen, gSel, pick, AH.put_g, AH.put_n, AH.new_g, AH.new_n, AH.put_same, AH.new_same, AH.put_put, AH.new_put, List.length_cons, List.length_nil, List.map_cons, List.map_nil, List.cons_append, List.nil_append, List.append_nil, List.replicate, List.getElem?_cons_zero, List.getElem?_cons_succ, List.getElem?_nil, List.set_cons_zero, List.set_cons_succ, List.flatMap_cons, List.flatMap_nil, List.drop_zero, List.drop_succ_cons, List.drop_nil, List.take_succ_cons, List.take_zero, List.take_nil, List.contains_cons, List.contains_nil, Bool.or_false, Bool.or_true, Bool.true_or, Bool.false_or, Bool.and_true, Bool.and_false, Bool.not_true, Bool.not_false, beq_self_eq_true, Nat.reduceAdd, Nat.reduceSub, Nat.reduceLeDiff, Nat.reduceLT, Nat.reduceEqDiff, Nat.reduceBEq, Int.reduceToNat, ↓reduceIte, reduceIte, Bool.false_eq_true, ne_true_f, pow10_18, pow10_10, pow10_11, pow10_6, decide_eq_true_eq, and_self, and_true, true_and, Nat.zero_le, Option.map_some, Option.map_none, Option.bind_some, Int.reduceLT, Int.reduceLE, Int.reduceNeg, decide_true, decide_false, ixN_0, ixN_1, ixN_2, ixN_3, ixN_m1, atI_1, atI_2, atI_3, eq_self, Option.some.injEq, false_and, atI_0, Nat.zero_add, Nat.add_zero, sRaise, sRaise0, sTryO, noEx, fAny, fAll, blsL, compL, wipeD, CT.set, eComp, eCompN, tYesD, lstOk, List.any_cons, List.any_nil, List.all_cons, List.all_nil, id, List.length_append, List.zip_cons_cons, List.zip_nil_left, List.reverse_cons, List.reverse_nil, Clock_get_slack, Clock_set_slack, Clock_put_0, Clock_get_shift, Clock_set_shift, Clock_put_1, Clock_get_floor, Clock_set_floor, Clock_put_2, Clock_no_lag, Clock_no_reading, Clock_no_put, try_0_0, h1]
  · simp (disch := omega) only [fnM, eVar, eC, eBin, eUn, aNil, aCons, eTup, eLst, eLstN, eFn, eIf, eFld, eCall, eMeth, eMake, insOf, tst, tstB, MP.tAnd, MP.tOr, MP.tNot, eAnd, eOr, eNot, eChain, truth, optR, Res.bind, Res.bindS, sNil, sSeq, sExp, sRet, sRetN, sIf, sAsg, sSet, sPar, MP.sFld, MP.sFldAug, sFor, nxO, gNm, gFld, gIx, setIx, setFld, gsNil, gsCons, gTp, gLs, MP.iRng1, MP.iRng2, iSeq, iLst, MP.iTup, seqL, seqM, seqT, seqX, eIsi, tyName, isi_ii, isi_ib, isi_bi, isi_bb, isi_ni, isi_si, isi_ss, isi_is, isi_tt, isi_ti, isi_li, pAdd, pSub, pMul_ok, pDiv_ok, pMod_ok, pNeg, pLt, pLe, pGt, pGe, pEq, pNe, pEqB, sEq, pIs, pIsNot, isNon, pIx, fAbs, fMax2, fMin2, fInt, fLen, gSel, pick, AH.put_g, AH.put_n, AH.new_g, AH.new_n, AH.put_same, AH.new_same, AH.put_put, AH.new_put, List.length_cons, List.length_nil, List.map_cons, List.map_nil, List.cons_append, List.nil_append, List.append_nil, List.replicate, List.getElem?_cons_zero, List.getElem?_cons_succ, List.getElem?_nil, List.set_cons_zero, List.set_cons_succ, List.flatMap_cons, List.flatMap_nil, List.drop_zero, List.drop_succ_cons, List.drop_nil, List.take_succ_cons, List.take_zero, List.take_nil, List.contains_cons, List.contains_nil, Bool.or_false, Bool.or_true, Bool.true_or, Bool.false_or, Bool.and_true, Bool.and_false, Bool.not_true, Bool.not_false, beq_self_eq_true, Nat.reduceAdd, Nat.reduceSub, Nat.reduceLeDiff, Nat.reduceLT, Nat.reduceEqDiff, Nat.reduceBEq, Int.reduceToNat, ↓reduceIte, reduceIte, Bool.false_eq_true, ne_true_f, pow10_18, pow10_10, pow10_11, pow10_6, decide_eq_true_eq, and_self, and_true, true_and, Nat.zero_le, Option.map_some, Option.map_none, Option.bind_some, Int.reduceLT, Int.reduceLE, Int.reduceNeg, decide_true, decide_false, ixN_0, ixN_1, ixN_2, ixN_3, ixN_m1, atI_1, atI_2, atI_3, eq_self, Option.some.injEq, false_and, atI_0, Nat.zero_add, Nat.add_zero, sRaise, sRaise0, sTryO, noEx, fAny, fAll, blsL, compL, wipeD, CT.set, eComp, eCompN, tYesD, lstOk, List.any_cons, List.any_nil, List.all_cons, List.all_nil, id, List.length_append, List.zip_cons_cons, List.zip_nil_left, List.reverse_cons, List.reverse_nil, Clock_get_slack, Clock_set_slack, Clock_put_0, Clock_get_shift, Clock_set_shift, Clock_put_1, Clock_get_floor, Clock_set_floor, Clock_put_2, Clock_no_lag, Clock_no_reading, Clock_no_put, try_0_0, h1]
/-- a floor -/
def flD : Option Int → D
  | none => .non
  | some v => .int v
/-- a clock as it lies -/
def Clk (h : AH) (c : Nat) (p s : Int) (f : Option Int) : Prop := h.g c = some (.ins 1 [("slack", .int p), ("shift", .int s), ("floor", flD f)])
def due (now s : Int) : Option Int → Int
  | none => now + s
  | some v => if v > now + s then v else now + s
theorem reading_ok {h : AH} {c : Nat} {p s now : Int} {f : Option Int} (C : Clk h c p s f) : f_Clock_reading [.ref c, .int now] h = .ok (.int (due now s f)) h := by
  unfold Clk at C
  cases f with
  | none => simp (disch := omega) only [fnM, eVar, eC, eBin, eUn, aNil, aCons, eTup, eLst, eLstN, eFn, eIf, eFld, eCall, eMeth, eMake, insOf, tst, tstB, MP.tAnd, MP.tOr, MP.tNot, eAnd, eOr, eNot, eChain, truth, optR, Res.bind, Res.bindS, sNil, sSeq, sExp, sRet, sRetN, sIf, sAsg, sSet, sPar, MP.sFld, MP.sFldAug, sFor, nxO, gNm, gFld, gIx, setIx, setFld, gsNil, gsCons, gTp, gLs, MP.iRng1, MP.iRng2, iSeq, iLst, MP.iTup, seqL, seqM, seqT, seqX, eIsi, tyName, isi_ii, isi_ib, isi_bi, isi_bb, isi_ni, isi_si, isi_ss, isi_is, isi_tt, isi_ti, isi_li, pAdd, pSub, pMul_ok, pDiv_ok, pMod_ok, pNeg, pLt, pLe, pGt, pGe, pEq, pNe, pEqB, sEq, pIs, pIsNot, isNon, pIx, fAbs, fMax2, fMin2, fInt, fLen, gSel, pick, AH.put_g, AH.put_n, AH.new_g, AH.new_n, AH.put_same, AH.new_same, AH.put_put, AH.new_put, List.length_cons, List.length_nil, List.map_cons, List.map_nil, List.cons_append, List.nil_append, List.append_nil, List.replicate, List.getElem?_cons_zero, List.getElem?_cons_succ, List.getElem?_nil, List.set_cons_zero, List.set_cons_succ, List.flatMap_cons, List.flatMap_nil, List.drop_zero, List.drop_succ_cons, List.drop_nil, List.take_succ_cons, List.take_zero, List.take_nil, List.contains_cons, List.contains_nil, Bool.or_false, Bool.or_true, Bool.true_or, Bool.false_or, Bool.and_true, Bool.and_false, Bool.not_true, Bool.not_false, beq_self_eq_true, Nat.reduceAdd, Nat.reduceSub, Nat.reduceLeDiff, Nat.reduceLT, Nat.reduceEqDiff, Nat.reduceBEq, Int.reduceToNat, ↓reduceIte, reduceIte, Bool.false_eq_true, ne_true_f, pow10_18, pow10_10, pow10_11, pow10_6, decide_eq_true_eq, and_self, and_true, true_and, Nat.zero_le, Option.map_some, Option.map_none, Option.bind_some, Int.reduceLT, Int.reduceLE, Int.reduceNeg, decide_true, decide_false, ixN_0, ixN_1, ixN_2, ixN_3, ixN_m1, atI_1, atI_2, atI_3, eq_self, Option.some.injEq, false_and, atI_0, Nat.zero_add, Nat.add_zero, sRaise, sRaise0, sTryO, noEx, fAny, fAll, blsL, compL, wipeD, CT.set, eComp, eCompN, tYesD, lstOk, List.any_cons, List.any_nil, List.all_cons, List.all_nil, id, List.length_append, List.zip_cons_cons, List.zip_nil_left, List.reverse_cons, List.reverse_nil, Clock_get_slack, Clock_set_slack, Clock_put_0, Clock_get_shift, Clock_set_shift, Clock_put_1, Clock_get_floor, Clock_set_floor, Clock_put_2, Clock_no_lag, Clock_no_reading, Clock_no_put, try_0_0, f_Clock_reading, b_Clock_reading, C, due, flD]
  | some v => simp (disch := omega) only [fnM, eVar, eC, eBin, eUn, aNil, aCons, eTup, eLst, eLstN, eFn, eIf, eFld, eCall, eMeth, eMake, insOf, tst, tstB, MP.tAnd, MP.tOr, MP.tNot, eAnd, eOr, eNot, eChain, truth, optR, Res.bind, Res.bindS, sNil, sSeq, sExp, sRet, sRetN, sIf, sAsg, sSet, sPar, MP.sFld, MP.sFldAug, sFor, nxO, gNm, gFld, gIx, setIx, setFld, gsNil, gsCons, gTp, gLs, MP.iRng1, MP.iRng2, iSeq, iLst, MP.iTup, seqL, seqM, seqT, seqX, eIsi, tyName, isi_ii, isi_ib, isi_bi, isi_bb, isi_ni, isi_si, isi_ss, isi_is, isi_tt, isi_ti, isi_li, pAdd, pSub, pMul_ok, pDiv_ok, pMod_ok, pNeg, pLt, pLe, pGt, pGe, pEq, pNe, pEqB, sEq, pIs, pIsNot, isNon, pIx, fAbs, fMax2, fMin2, fInt, fLen, gSel, pick, AH.put_g, AH.put_n, AH.new_g, AH.new_n, AH.put_same, AH.new_same, AH.put_put, AH.new_put, List.length_cons, List.length_nil, List.map_cons, List.map_nil, List.cons_append, List.nil_append, List.append_nil, List.replicate, List.getElem?_cons_zero, List.getElem?_cons_succ, List.getElem?_nil, List.set_cons_zero, List.set_cons_succ, List.flatMap_cons, List.flatMap_nil, List.drop_zero, List.drop_succ_cons, List.drop_nil, List.take_succ_cons, List.take_zero, List.take_nil, List.contains_cons, List.contains_nil, Bool.or_false, Bool.or_true, Bool.true_or, Bool.false_or, Bool.and_true, Bool.and_false, Bool.not_true, Bool.not_false, beq_self_eq_true, Nat.reduceAdd, Nat.reduceSub, Nat.reduceLeDiff, Nat.reduceLT, Nat.reduceEqDiff, Nat.reduceBEq, Int.reduceToNat, ↓reduceIte, reduceIte, Bool.false_eq_true, ne_true_f, pow10_18, pow10_10, pow10_11, pow10_6, decide_eq_true_eq, and_self, and_true, true_and, Nat.zero_le, Option.map_some, Option.map_none, Option.bind_some, Int.reduceLT, Int.reduceLE, Int.reduceNeg, decide_true, decide_false, ixN_0, ixN_1, ixN_2, ixN_3, ixN_m1, atI_1, atI_2, atI_3, eq_self, Option.some.injEq, false_and, atI_0, Nat.zero_add, Nat.add_zero, sRaise, sRaise0, sTryO, noEx, fAny, fAll, blsL, compL, wipeD, CT.set, eComp, eCompN, tYesD, lstOk, List.any_cons, List.any_nil, List.all_cons, List.all_nil, id, List.length_append, List.zip_cons_cons, List.zip_nil_left, List.reverse_cons, List.reverse_nil, Clock_get_slack, Clock_set_slack, Clock_put_0, Clock_get_shift, Clock_set_shift, Clock_put_1, Clock_get_floor, Clock_set_floor, Clock_put_2, Clock_no_lag, Clock_no_reading, Clock_no_put, try_0_0, f_Clock_reading, b_Clock_reading, C, due, flD]
theorem lag_is {h : AH} {c : Nat} {p s : Int} {f : Option Int} (C : Clk h c p s f) : f_Clock_lag [.ref c] h = .ok (.int s) h := by
  unfold Clk at C
  cases f with
  | none => simp (disch := omega) only [fnM, eVar, eC, eBin, eUn, aNil, aCons, eTup, eLst, eLstN, eFn, eIf, eFld, eCall, eMeth, eMake, insOf, tst, tstB, MP.tAnd, MP.tOr, MP.tNot, eAnd, eOr, eNot, eChain, truth, optR, Res.bind, Res.bindS, sNil, sSeq, sExp, sRet, sRetN, sIf, sAsg, sSet, sPar, MP.sFld, MP.sFldAug, sFor, nxO, gNm, gFld, gIx, setIx, setFld, gsNil, gsCons, gTp, gLs, MP.iRng1, MP.iRng2, iSeq, iLst, MP.iTup, seqL, seqM, seqT, seqX, eIsi, tyName, isi_ii, isi_ib, isi_bi, isi_bb, isi_ni, isi_si, isi_ss, isi_is, isi_tt, isi_ti, isi_li, pAdd, pSub, pMul_ok, pDiv_ok, pMod_ok, pNeg, pLt, pLe, pGt, pGe, pEq, pNe, pEqB, sEq, pIs, pIsNot, isNon, pIx, fAbs, fMax2, fMin2, fInt, fLen, gSel, pick, AH.put_g, AH.put_n, AH.new_g, AH.new_n, AH.put_same, AH.new_same, AH.put_put, AH.new_put, List.length_cons, List.length_nil, List.map_cons, List.map_nil, List.cons_append, List.nil_append, List.append_nil, List.replicate, List.getElem?_cons_zero, List.getElem?_cons_succ, List.getElem?_nil, List.set_cons_zero, List.set_cons_succ, List.flatMap_cons, List.flatMap_nil, List.drop_zero, List.drop_succ_cons, List.drop_nil, List.take_succ_cons, List.take_zero, List.take_nil, List.contains_cons, List.contains_nil, Bool.or_false, Bool.or_true, Bool.true_or, Bool.false_or, Bool.and_true, Bool.and_false, Bool.not_true, Bool.not_false, beq_self_eq_true, Nat.reduceAdd, Nat.reduceSub, Nat.reduceLeDiff, Nat.reduceLT, Nat.reduceEqDiff, Nat.reduceBEq, Int.reduceToNat, ↓reduceIte, reduceIte, Bool.false_eq_true, ne_true_f, pow10_18, pow10_10, pow10_11, pow10_6, decide_eq_true_eq, and_self, and_true, true_and, Nat.zero_le, Option.map_some, Option.map_none, Option.bind_some, Int.reduceLT, Int.reduceLE, Int.reduceNeg, decide_true, decide_false, ixN_0, ixN_1, ixN_2, ixN_3, ixN_m1, atI_1, atI_2, atI_3, eq_self, Option.some.injEq, false_and, atI_0, Nat.zero_add, Nat.add_zero, sRaise, sRaise0, sTryO, noEx, fAny, fAll, blsL, compL, wipeD, CT.set, eComp, eCompN, tYesD, lstOk, List.any_cons, List.any_nil, List.all_cons, List.all_nil, id, List.length_append, List.zip_cons_cons, List.zip_nil_left, List.reverse_cons, List.reverse_nil, Clock_get_slack, Clock_set_slack, Clock_put_0, Clock_get_shift, Clock_set_shift, Clock_put_1, Clock_get_floor, Clock_set_floor, Clock_put_2, Clock_no_lag, Clock_no_reading, Clock_no_put, try_0_0, f_Clock_lag, b_Clock_lag, C, flD]
  | some v => simp (disch := omega) only [fnM, eVar, eC, eBin, eUn, aNil, aCons, eTup, eLst, eLstN, eFn, eIf, eFld, eCall, eMeth, eMake, insOf, tst, tstB, MP.tAnd, MP.tOr, MP.tNot, eAnd, eOr, eNot, eChain, truth, optR, Res.bind, Res.bindS, sNil, sSeq, sExp, sRet, sRetN, sIf, sAsg, sSet, sPar, MP.sFld, MP.sFldAug, sFor, nxO, gNm, gFld, gIx, setIx, setFld, gsNil, gsCons, gTp, gLs, MP.iRng1, MP.iRng2, iSeq, iLst, MP.iTup, seqL, seqM, seqT, seqX, eIsi, tyName, isi_ii, isi_ib, isi_bi, isi_bb, isi_ni, isi_si, isi_ss, isi_is, isi_tt, isi_ti, isi_li, pAdd, pSub, pMul_ok, pDiv_ok, pMod_ok, pNeg, pLt, pLe, pGt, pGe, pEq, pNe, pEqB, sEq, pIs, pIsNot, isNon, pIx, fAbs, fMax2, fMin2, fInt, fLen, gSel, pick, AH.put_g, AH.put_n, AH.new_g, AH.new_n, AH.put_same, AH.new_same, AH.put_put, AH.new_put, List.length_cons, List.length_nil, List.map_cons, List.map_nil, List.cons_append, List.nil_append, List.append_nil, List.replicate, List.getElem?_cons_zero, List.getElem?_cons_succ, List.getElem?_nil, List.set_cons_zero, List.set_cons_succ, List.flatMap_cons, List.flatMap_nil, List.drop_zero, List.drop_succ_cons, List.drop_nil, List.take_succ_cons, List.take_zero, List.take_nil, List.contains_cons, List.contains_nil, Bool.or_false, Bool.or_true, Bool.true_or, Bool.false_or, Bool.and_true, Bool.and_false, Bool.not_true, Bool.not_false, beq_self_eq_true, Nat.reduceAdd, Nat.reduceSub, Nat.reduceLeDiff, Nat.reduceLT, Nat.reduceEqDiff, Nat.reduceBEq, Int.reduceToNat, ↓reduceIte, reduceIte, Bool.false_eq_true, ne_true_f, pow10_18, pow10_10, pow10_11, pow10_6, decide_eq_true_eq, and_self, and_true, true_and, Nat.zero_le, Option.map_some, Option.map_none, Option.bind_some, Int.reduceLT, Int.reduceLE, Int.reduceNeg, decide_true, decide_false, ixN_0, ixN_1, ixN_2, ixN_3, ixN_m1, atI_1, atI_2, atI_3, eq_self, Option.some.injEq, false_and, atI_0, Nat.zero_add, Nat.add_zero, sRaise, sRaise0, sTryO, noEx, fAny, fAll, blsL, compL, wipeD, CT.set, eComp, eCompN, tYesD, lstOk, List.any_cons, List.any_nil, List.all_cons, List.all_nil, id, List.length_append, List.zip_cons_cons, List.zip_nil_left, List.reverse_cons, List.reverse_nil, Clock_get_slack, Clock_set_slack, Clock_put_0, Clock_get_shift, Clock_set_shift, Clock_put_1, Clock_get_floor, Clock_set_floor, Clock_put_2, Clock_no_lag, Clock_no_reading, Clock_no_put, try_0_0, f_Clock_lag, b_Clock_lag, C, flD]

theorem put_ok {h : AH} {c : Nat} {p s now g : Int} {f : Option Int} (C : Clk h c p s f) (h1 : -p ≤ g) (h2 : g ≤ p) :
    f_Clock_put [.ref c, .int now, .int g] h = .ok .non (h.put c (.ins 1 [("slack", .int p), ("shift", .int g), ("floor", .int (due now s f))])) := by
  have r1 := reading_ok (now := now) C
  unfold Clk at C
  have hd : decide (-p ≤ g ∧ g ≤ p) = true := by simp [h1, h2]
  simp (disch := omega) only [fnM, eVar, eC, eBin, eUn, aNil, aCons, eTup, eLst, eLstN, eFn, eIf, eFld, eCall, eMeth, eMake, insOf, tst, tstB, MP.tAnd, MP.tOr, MP.tNot, eAnd, eOr, eNot, eChain, truth, optR, Res.bind, Res.bindS, sNil, sSeq, sExp, sRet, sRetN, sIf, sAsg, sSet, sPar, MP.sFld, MP.sFldAug, sFor, nxO, gNm, gFld, gIx, setIx, setFld, gsNil, gsCons, gTp, gLs, MP.iRng1, MP.iRng2, iSeq, iLst, MP.iTup, seqL, seqM, seqT, seqX, eIsi, tyName, isi_ii, isi_ib, isi_bi, isi_bb, isi_ni, isi_si, isi_ss, isi_is, isi_tt, isi_ti, isi_li, pAdd, pSub, pMul_ok, pDiv_ok, pMod_ok, pNeg, pLt, pLe, pGt, pGe, pEq, pNe, pEqB, sEq, pIs, pIsNot, isNon, pIx, fAbs, fMax2, fMin2, fInt, fLen, gSel, pick, AH.put_g, AH.put_n, AH.new_g, AH.new_n, AH.put_same, AH.new_same, AH.put_put, AH.new_put, List.length_cons, List.length_nil, List.map_cons, List.map_nil, List.cons_append, List.nil_append, List.append_nil, List.replicate, List.getElem?_cons_zero, List.getElem?_cons_succ, List.getElem?_nil, List.set_cons_zero, List.set_cons_succ, List.flatMap_cons, List.flatMap_nil, List.drop_zero, List.drop_succ_cons, List.drop_nil, List.take_succ_cons, List.take_zero, List.take_nil, List.contains_cons, List.contains_nil, Bool.or_false, Bool.or_true, Bool.true_or, Bool.false_or, Bool.and_true, Bool.and_false, Bool.not_true, Bool.not_false, beq_self_eq_true, Nat.reduceAdd, Nat.reduceSub, Nat.reduceLeDiff, Nat.reduceLT, Nat.reduceEqDiff, Nat.reduceBEq, Int.reduceToNat, ↓reduceIte, reduceIte, Bool.false_eq_true, ne_true_f, pow10_18, pow10_10, pow10_11, pow10_6, decide_eq_true_eq, and_self, and_true, true_and, Nat.zero_le, Option.map_some, Option.map_none, Option.bind_some, Int.reduceLT, Int.reduceLE, Int.reduceNeg, decide_true, decide_false, ixN_0, ixN_1, ixN_2, ixN_3, ixN_m1, atI_1, atI_2, atI_3, eq_self, Option.some.injEq, false_and, atI_0, Nat.zero_add, Nat.add_zero, sRaise, sRaise0, sTryO, noEx, fAny, fAll, blsL, compL, wipeD, CT.set, eComp, eCompN, tYesD, lstOk, List.any_cons, List.any_nil, List.all_cons, List.all_nil, id, List.length_append, List.zip_cons_cons, List.zip_nil_left, List.reverse_cons, List.reverse_nil, Clock_get_slack, Clock_set_slack, Clock_put_0, Clock_get_shift, Clock_set_shift, Clock_put_1, Clock_get_floor, Clock_set_floor, Clock_put_2, Clock_no_lag, Clock_no_reading, Clock_no_put, try_0_0, f_Clock_put, b_Clock_put, within_eq, C, flD, r1, hd]
theorem init_ok (h : AH) (p : Int) : f_Clock_init [.ref h.n, .int p] (h.new (.ins 1 [])) = .ok .non (h.new (.ins 1 [("slack", .int p), ("shift", .int 0), ("floor", .non)])) := by
  simp (disch := omega) only [fnM, eVar, eC, eBin, eUn, aNil, aCons, eTup, eLst, eLstN, eFn, eIf, eFld, eCall, eMeth, eMake, insOf, tst, tstB, MP.tAnd, MP.tOr, MP.tNot, eAnd, eOr, eNot, eChain, truth, optR, Res.bind, Res.bindS, sNil, sSeq, sExp, sRet, sRetN, sIf, sAsg, sSet, sPar, MP.sFld, MP.sFldAug, sFor, nxO, gNm, gFld, gIx, setIx, setFld, gsNil, gsCons, gTp, gLs, MP.iRng1, MP.iRng2, iSeq, iLst, MP.iTup, seqL, seqM, seqT, seqX, eIsi, tyName, isi_ii, isi_ib, isi_bi, isi_bb, isi_ni, isi_si, isi_ss, isi_is, isi_tt, isi_ti, isi_li, pAdd, pSub, pMul_ok, pDiv_ok, pMod_ok, pNeg, pLt, pLe, pGt, pGe, pEq, pNe, pEqB, sEq, pIs, pIsNot, isNon, pIx, fAbs, fMax2, fMin2, fInt, fLen, gSel, pick, AH.put_g, AH.put_n, AH.new_g, AH.new_n, AH.put_same, AH.new_same, AH.put_put, AH.new_put, List.length_cons, List.length_nil, List.map_cons, List.map_nil, List.cons_append, List.nil_append, List.append_nil, List.replicate, List.getElem?_cons_zero, List.getElem?_cons_succ, List.getElem?_nil, List.set_cons_zero, List.set_cons_succ, List.flatMap_cons, List.flatMap_nil, List.drop_zero, List.drop_succ_cons, List.drop_nil, List.take_succ_cons, List.take_zero, List.take_nil, List.contains_cons, List.contains_nil, Bool.or_false, Bool.or_true, Bool.true_or, Bool.false_or, Bool.and_true, Bool.and_false, Bool.not_true, Bool.not_false, beq_self_eq_true, Nat.reduceAdd, Nat.reduceSub, Nat.reduceLeDiff, Nat.reduceLT, Nat.reduceEqDiff, Nat.reduceBEq, Int.reduceToNat, ↓reduceIte, reduceIte, Bool.false_eq_true, ne_true_f, pow10_18, pow10_10, pow10_11, pow10_6, decide_eq_true_eq, and_self, and_true, true_and, Nat.zero_le, Option.map_some, Option.map_none, Option.bind_some, Int.reduceLT, Int.reduceLE, Int.reduceNeg, decide_true, decide_false, ixN_0, ixN_1, ixN_2, ixN_3, ixN_m1, atI_1, atI_2, atI_3, eq_self, Option.some.injEq, false_and, atI_0, Nat.zero_add, Nat.add_zero, sRaise, sRaise0, sTryO, noEx, fAny, fAll, blsL, compL, wipeD, CT.set, eComp, eCompN, tYesD, lstOk, List.any_cons, List.any_nil, List.all_cons, List.all_nil, id, List.length_append, List.zip_cons_cons, List.zip_nil_left, List.reverse_cons, List.reverse_nil, Clock_get_slack, Clock_set_slack, Clock_put_0, Clock_get_shift, Clock_set_shift, Clock_put_1, Clock_get_floor, Clock_set_floor, Clock_put_2, Clock_no_lag, Clock_no_reading, Clock_no_put, try_0_0, f_Clock_init, b_Clock_init]

/-- put within the slack, or refused -/
theorem lawput_ok {h : AH} {c : Nat} {p s now g : Int} {f : Option Int} (C : Clk h c p s f) (h1 : -p ≤ g) (h2 : g ≤ p) :
    f_law_put [.ref c, .int now, .int g] h = .ok (.bl true) (h.put c (.ins 1 [("slack", .int p), ("shift", .int g), ("floor", .int (due now s f))])) := by
  have P := put_ok (now := now) C h1 h2
  unfold Clk at C
  simp (disch := omega) only [fnM, eVar, eC, eBin, eUn, aNil, aCons, eTup, eLst, eLstN, eFn, eIf, eFld, eCall, eMeth, eMake, insOf, tst, tstB, MP.tAnd, MP.tOr, MP.tNot, eAnd, eOr, eNot, eChain, truth, optR, Res.bind, Res.bindS, sNil, sSeq, sExp, sRet, sRetN, sIf, sAsg, sSet, sPar, MP.sFld, MP.sFldAug, sFor, nxO, gNm, gFld, gIx, setIx, setFld, gsNil, gsCons, gTp, gLs, MP.iRng1, MP.iRng2, iSeq, iLst, MP.iTup, seqL, seqM, seqT, seqX, eIsi, tyName, isi_ii, isi_ib, isi_bi, isi_bb, isi_ni, isi_si, isi_ss, isi_is, isi_tt, isi_ti, isi_li, pAdd, pSub, pMul_ok, pDiv_ok, pMod_ok, pNeg, pLt, pLe, pGt, pGe, pEq, pNe, pEqB, sEq, pIs, pIsNot, isNon, pIx, fAbs, fMax2, fMin2, fInt, fLen, gSel, pick, AH.put_g, AH.put_n, AH.new_g, AH.new_n, AH.put_same, AH.new_same, AH.put_put, AH.new_put, List.length_cons, List.length_nil, List.map_cons, List.map_nil, List.cons_append, List.nil_append, List.append_nil, List.replicate, List.getElem?_cons_zero, List.getElem?_cons_succ, List.getElem?_nil, List.set_cons_zero, List.set_cons_succ, List.flatMap_cons, List.flatMap_nil, List.drop_zero, List.drop_succ_cons, List.drop_nil, List.take_succ_cons, List.take_zero, List.take_nil, List.contains_cons, List.contains_nil, Bool.or_false, Bool.or_true, Bool.true_or, Bool.false_or, Bool.and_true, Bool.and_false, Bool.not_true, Bool.not_false, beq_self_eq_true, Nat.reduceAdd, Nat.reduceSub, Nat.reduceLeDiff, Nat.reduceLT, Nat.reduceEqDiff, Nat.reduceBEq, Int.reduceToNat, ↓reduceIte, reduceIte, Bool.false_eq_true, ne_true_f, pow10_18, pow10_10, pow10_11, pow10_6, decide_eq_true_eq, and_self, and_true, true_and, Nat.zero_le, Option.map_some, Option.map_none, Option.bind_some, Int.reduceLT, Int.reduceLE, Int.reduceNeg, decide_true, decide_false, ixN_0, ixN_1, ixN_2, ixN_3, ixN_m1, atI_1, atI_2, atI_3, eq_self, Option.some.injEq, false_and, atI_0, Nat.zero_add, Nat.add_zero, sRaise, sRaise0, sTryO, noEx, fAny, fAll, blsL, compL, wipeD, CT.set, eComp, eCompN, tYesD, lstOk, List.any_cons, List.any_nil, List.all_cons, List.all_nil, id, List.length_append, List.zip_cons_cons, List.zip_nil_left, List.reverse_cons, List.reverse_nil, Clock_get_slack, Clock_set_slack, Clock_put_0, Clock_get_shift, Clock_set_shift, Clock_put_1, Clock_get_floor, Clock_set_floor, Clock_put_2, Clock_no_lag, Clock_no_reading, Clock_no_put, try_0_0, f_law_put, b_law_put, P, C]
theorem lawput_no {h : AH} {c : Nat} {p s now g : Int} {f : Option Int} (C : Clk h c p s f) (h2 : p < g) :
    f_law_put [.ref c, .int now, .int g] h = .ok (.bl false) h := by
  unfold Clk at C
  have hd : decide (-p ≤ g ∧ g ≤ p) = false := by
    rw [decide_eq_false_iff_not]
    omega
  simp (disch := omega) only [fnM, eVar, eC, eBin, eUn, aNil, aCons, eTup, eLst, eLstN, eFn, eIf, eFld, eCall, eMeth, eMake, insOf, tst, tstB, MP.tAnd, MP.tOr, MP.tNot, eAnd, eOr, eNot, eChain, truth, optR, Res.bind, Res.bindS, sNil, sSeq, sExp, sRet, sRetN, sIf, sAsg, sSet, sPar, MP.sFld, MP.sFldAug, sFor, nxO, gNm, gFld, gIx, setIx, setFld, gsNil, gsCons, gTp, gLs, MP.iRng1, MP.iRng2, iSeq, iLst, MP.iTup, seqL, seqM, seqT, seqX, eIsi, tyName, isi_ii, isi_ib, isi_bi, isi_bb, isi_ni, isi_si, isi_ss, isi_is, isi_tt, isi_ti, isi_li, pAdd, pSub, pMul_ok, pDiv_ok, pMod_ok, pNeg, pLt, pLe, pGt, pGe, pEq, pNe, pEqB, sEq, pIs, pIsNot, isNon, pIx, fAbs, fMax2, fMin2, fInt, fLen, gSel, pick, AH.put_g, AH.put_n, AH.new_g, AH.new_n, AH.put_same, AH.new_same, AH.put_put, AH.new_put, List.length_cons, List.length_nil, List.map_cons, List.map_nil, List.cons_append, List.nil_append, List.append_nil, List.replicate, List.getElem?_cons_zero, List.getElem?_cons_succ, List.getElem?_nil, List.set_cons_zero, List.set_cons_succ, List.flatMap_cons, List.flatMap_nil, List.drop_zero, List.drop_succ_cons, List.drop_nil, List.take_succ_cons, List.take_zero, List.take_nil, List.contains_cons, List.contains_nil, Bool.or_false, Bool.or_true, Bool.true_or, Bool.false_or, Bool.and_true, Bool.and_false, Bool.not_true, Bool.not_false, beq_self_eq_true, Nat.reduceAdd, Nat.reduceSub, Nat.reduceLeDiff, Nat.reduceLT, Nat.reduceEqDiff, Nat.reduceBEq, Int.reduceToNat, ↓reduceIte, reduceIte, Bool.false_eq_true, ne_true_f, pow10_18, pow10_10, pow10_11, pow10_6, decide_eq_true_eq, and_self, and_true, true_and, Nat.zero_le, Option.map_some, Option.map_none, Option.bind_some, Int.reduceLT, Int.reduceLE, Int.reduceNeg, decide_true, decide_false, ixN_0, ixN_1, ixN_2, ixN_3, ixN_m1, atI_1, atI_2, atI_3, eq_self, Option.some.injEq, false_and, atI_0, Nat.zero_add, Nat.add_zero, sRaise, sRaise0, sTryO, noEx, fAny, fAll, blsL, compL, wipeD, CT.set, eComp, eCompN, tYesD, lstOk, List.any_cons, List.any_nil, List.all_cons, List.all_nil, id, List.length_append, List.zip_cons_cons, List.zip_nil_left, List.reverse_cons, List.reverse_nil, Clock_get_slack, Clock_set_slack, Clock_put_0, Clock_get_shift, Clock_set_shift, Clock_put_1, Clock_get_floor, Clock_set_floor, Clock_put_2, Clock_no_lag, Clock_no_reading, Clock_no_put, try_0_0, f_law_put, b_law_put, f_Clock_put, b_Clock_put, within_eq, C, flD, hd]

theorem tail_ok {sc at_ x7 x10 x11 x12 x13 : Option D} {b c0 c1 : Nat} {p n a0 a1 w l r s0 s1 : Int} {f0 f1 : Option Int} {h : AH} (C0 : Clk h c0 p s0 f0) (C1 : Clk h c1 p s1 f1)
    (hw : (w = 0 ∧ l = s1 ∧ r = due n s1 f1) ∨ (w = 1 ∧ l = s0 ∧ r = due n s0 f0)) (b0 : -p ≤ due n s0 f0 - n ∧ due n s0 f0 - n ≤ p) (b1 : -p ≤ due n s1 f1 - n ∧ due n s1 f1 - n ≤ p) (m0 : a0 ≤ due n s0 f0) (m1 : a1 ≤ due n s1 f1) :
    R_law_1_5 [sc, at_, some (.ref b), some (.int p), some (.lst [.ref c0, .ref c1]), some (.int n), some (.lst [.int a0, .int a1]), x7, some (.int w), some (.lst [.int l, .int r]), x10, x11, x12, x13] h =
      .nx [sc, at_, some (.ref b), some (.int p), some (.lst [.ref c0, .ref c1]), some (.int n), some (.lst [.int (due n s0 f0), .int (due n s1 f1)]), x7, some (.int w), some (.lst [.int l, .int r]), x10, some (.lst [.int (due n s0 f0), .int (due n s1 f1)]), x12, x13] h := by
  have r0 := reading_ok (now := n) C0
  have r1 := reading_ok (now := n) C1
  have l0 := lag_is C0
  have l1 := lag_is C1
  unfold Clk at C0 C1
  have q0 : decide (p < if due n s0 f0 - n < 0 then -(due n s0 f0 - n) else due n s0 f0 - n) = false := by
    rw [decide_eq_false_iff_not]
    split <;> omega
  have q1 : decide (p < if due n s1 f1 - n < 0 then -(due n s1 f1 - n) else due n s1 f1 - n) = false := by
    rw [decide_eq_false_iff_not]
    split <;> omega
  have q2 : decide (2 * p < if due n s0 f0 - due n s1 f1 < 0 then -(due n s0 f0 - due n s1 f1) else due n s0 f0 - due n s1 f1) = false := by
    rw [decide_eq_false_iff_not]
    split <;> omega
  have q3 : decide (due n s0 f0 < a0) = false := by
    rw [decide_eq_false_iff_not]
    omega
  have q4 : decide (due n s1 f1 < a1) = false := by
    rw [decide_eq_false_iff_not]
    omega
  have e2 : ∀ h a b, pEqB h (.lst [.int a, .int b]) (.lst [.int a, .int b]) = some true := eqb_ints2
  rcases hw with ⟨rfl, rfl, rfl⟩ | ⟨rfl, rfl, rfl⟩
  · simp (disch := omega) only [fnM, eVar, eC, eBin, eUn, aNil, aCons, eTup, eLst, eLstN, eFn, eIf, eFld, eCall, eMeth, eMake, insOf, tst, tstB, MP.tAnd, MP.tOr, MP.tNot, eAnd, eOr, eNot, eChain, truth, optR, Res.bind, Res.bindS, sNil, sSeq, sExp, sRet, sRetN, sIf, sAsg, sSet, sPar, MP.sFld, MP.sFldAug, sFor, nxO, gNm, gFld, gIx, setIx, setFld, gsNil, gsCons, gTp, gLs, MP.iRng1, MP.iRng2, iSeq, iLst, MP.iTup, seqL, seqM, seqT, seqX, eIsi, tyName, isi_ii, isi_ib, isi_bi, isi_bb, isi_ni, isi_si, isi_ss, isi_is, isi_tt, isi_ti, isi_li, pAdd, pSub, pMul_ok, pDiv_ok, pMod_ok, pNeg, pLt, pLe, pGt, pGe, pEq, pNe, sEq, pIs, pIsNot, isNon, pIx, fAbs, fMax2, fMin2, fInt, fLen, gSel, pick, AH.put_g, AH.put_n, AH.new_g, AH.new_n, AH.put_same, AH.new_same, AH.put_put, AH.new_put, List.length_cons, List.length_nil, List.map_cons, List.map_nil, List.cons_append, List.nil_append, List.append_nil, List.replicate, List.getElem?_cons_zero, List.getElem?_cons_succ, List.getElem?_nil, List.set_cons_zero, List.set_cons_succ, List.flatMap_cons, List.flatMap_nil, List.drop_zero, List.drop_succ_cons, List.drop_nil, List.take_succ_cons, List.take_zero, List.take_nil, List.contains_cons, List.contains_nil, Bool.or_false, Bool.or_true, Bool.true_or, Bool.false_or, Bool.and_true, Bool.and_false, Bool.not_true, Bool.not_false, beq_self_eq_true, Nat.reduceAdd, Nat.reduceSub, Nat.reduceLeDiff, Nat.reduceLT, Nat.reduceEqDiff, Nat.reduceBEq, Int.reduceToNat, ↓reduceIte, reduceIte, Bool.false_eq_true, ne_true_f, pow10_18, pow10_10, pow10_11, pow10_6, decide_eq_true_eq, and_self, and_true, true_and, Nat.zero_le, Option.map_some, Option.map_none, Option.bind_some, Int.reduceLT, Int.reduceLE, Int.reduceNeg, decide_true, decide_false, ixN_0, ixN_1, ixN_2, ixN_3, ixN_m1, atI_1, atI_2, atI_3, eq_self, Option.some.injEq, false_and, atI_0, Nat.zero_add, Nat.add_zero, sRaise, sRaise0, sTryO, noEx, fAny, fAll, blsL, compL, wipeD, CT.set, eComp, eCompN, tYesD, lstOk, List.any_cons, List.any_nil, List.all_cons, List.all_nil, id, List.length_append, List.zip_cons_cons, List.zip_nil_left, List.reverse_cons, List.reverse_nil, Clock_get_slack, Clock_set_slack, Clock_put_0, Clock_get_shift, Clock_set_shift, Clock_put_1, Clock_get_floor, Clock_set_floor, Clock_put_2, Clock_no_lag, Clock_no_reading, Clock_no_put, try_0_0, R_law_1_5, R_law_1_6, R_law_1_7, R_law_1_8, r0, r1, l0, l1, C0, C1, q0, q1, q2, q3, q4, e2, Int.reduceSub]
  · simp (disch := omega) only [fnM, eVar, eC, eBin, eUn, aNil, aCons, eTup, eLst, eLstN, eFn, eIf, eFld, eCall, eMeth, eMake, insOf, tst, tstB, MP.tAnd, MP.tOr, MP.tNot, eAnd, eOr, eNot, eChain, truth, optR, Res.bind, Res.bindS, sNil, sSeq, sExp, sRet, sRetN, sIf, sAsg, sSet, sPar, MP.sFld, MP.sFldAug, sFor, nxO, gNm, gFld, gIx, setIx, setFld, gsNil, gsCons, gTp, gLs, MP.iRng1, MP.iRng2, iSeq, iLst, MP.iTup, seqL, seqM, seqT, seqX, eIsi, tyName, isi_ii, isi_ib, isi_bi, isi_bb, isi_ni, isi_si, isi_ss, isi_is, isi_tt, isi_ti, isi_li, pAdd, pSub, pMul_ok, pDiv_ok, pMod_ok, pNeg, pLt, pLe, pGt, pGe, pEq, pNe, sEq, pIs, pIsNot, isNon, pIx, fAbs, fMax2, fMin2, fInt, fLen, gSel, pick, AH.put_g, AH.put_n, AH.new_g, AH.new_n, AH.put_same, AH.new_same, AH.put_put, AH.new_put, List.length_cons, List.length_nil, List.map_cons, List.map_nil, List.cons_append, List.nil_append, List.append_nil, List.replicate, List.getElem?_cons_zero, List.getElem?_cons_succ, List.getElem?_nil, List.set_cons_zero, List.set_cons_succ, List.flatMap_cons, List.flatMap_nil, List.drop_zero, List.drop_succ_cons, List.drop_nil, List.take_succ_cons, List.take_zero, List.take_nil, List.contains_cons, List.contains_nil, Bool.or_false, Bool.or_true, Bool.true_or, Bool.false_or, Bool.and_true, Bool.and_false, Bool.not_true, Bool.not_false, beq_self_eq_true, Nat.reduceAdd, Nat.reduceSub, Nat.reduceLeDiff, Nat.reduceLT, Nat.reduceEqDiff, Nat.reduceBEq, Int.reduceToNat, ↓reduceIte, reduceIte, Bool.false_eq_true, ne_true_f, pow10_18, pow10_10, pow10_11, pow10_6, decide_eq_true_eq, and_self, and_true, true_and, Nat.zero_le, Option.map_some, Option.map_none, Option.bind_some, Int.reduceLT, Int.reduceLE, Int.reduceNeg, decide_true, decide_false, ixN_0, ixN_1, ixN_2, ixN_3, ixN_m1, atI_1, atI_2, atI_3, eq_self, Option.some.injEq, false_and, atI_0, Nat.zero_add, Nat.add_zero, sRaise, sRaise0, sTryO, noEx, fAny, fAll, blsL, compL, wipeD, CT.set, eComp, eCompN, tYesD, lstOk, List.any_cons, List.any_nil, List.all_cons, List.all_nil, id, List.length_append, List.zip_cons_cons, List.zip_nil_left, List.reverse_cons, List.reverse_nil, Clock_get_slack, Clock_set_slack, Clock_put_0, Clock_get_shift, Clock_set_shift, Clock_put_1, Clock_get_floor, Clock_set_floor, Clock_put_2, Clock_no_lag, Clock_no_reading, Clock_no_put, try_0_0, R_law_1_5, R_law_1_6, R_law_1_7, R_law_1_8, r0, r1, l0, l1, C0, C1, q0, q1, q2, q3, q4, e2, Int.reduceSub]

structure Lap (sc at_ : Option D) (b c0 c1 : Nat) (p i : Int) (s : Sl) (h : AH) : Prop where
  e : ∃ n a0 a1 s0 s1 f0 f1 x7 x8 x9 x10 x11 x12 x13, s = [sc, at_, some (.ref b), some (.int p), some (.lst [.ref c0, .ref c1]), some (.int n), some (.lst [.int a0, .int a1]), x7, x8, x9, x10, x11, x12, x13] ∧
    Clk h c0 p s0 f0 ∧ Clk h c1 p s1 f1 ∧ (-p ≤ s0 ∧ s0 ≤ p) ∧ (-p ≤ s1 ∧ s1 ≤ p) ∧ (∀ v, f0 = some v → v ≤ n + p) ∧ (∀ v, f1 = some v → v ≤ n + p) ∧ a0 ≤ due n s0 f0 ∧ a1 ≤ due n s1 f1
  B : Bag h b (20 + 8 * i)
/-- as a clock goes on -/
theorem due_up {n t p s : Int} {f : Option Int} (ht : 0 ≤ t) (hs : -p ≤ s ∧ s ≤ p) (hf : ∀ v, f = some v → v ≤ n + p) : due n s f ≤ due (n + t) s f ∧ -p ≤ due (n + t) s f - (n + t) ∧ due (n + t) s f - (n + t) ≤ p := by
  cases f with
  | none => simp only [due]; omega
  | some v =>
    have := hf v rfl
    simp only [due]
    split <;> split <;> omega
/-- as it is put -/
theorem due_put {n p g d : Int} (hs : -p ≤ g ∧ g ≤ p) (hd : d - n ≤ p) : d ≤ due n g (some d) ∧ -p ≤ due n g (some d) - n ∧ due n g (some d) - n ≤ p := by
  simp only [due]
  split <;> omega
theorem lap_ok {sc at_ : Option D} {b c0 c1 : Nat} {p i : Int} {s : Sl} {h : AH} (h0 : c0 ≠ b) (h1 : c1 ≠ b) (h01 : c0 ≠ c1) (p0 : 0 ≤ p) (p1 : p ≤ 9999) (i0 : 0 ≤ i) (i1 : i < 28) (L : Lap sc at_ b c0 c1 p i s h) :
    ∃ s1 h1 s2 h2, gNm 7 (.int i) s h = some (s1, h1) ∧ (L_law_9 s1 h1 = .nx s2 h2 ∨ L_law_9 s1 h1 = .ct s2 h2) ∧ Lap sc at_ b c0 c1 p (i + 1) s2 h2 := by
  obtain ⟨⟨n, a0, a1, s0, s1, f0, f1, x7, x8, x9, x10, x11, x12, x13, rfl, C0, C1, d0, d1, F0, F1, m0, m1⟩, B⟩ := L
  obtain ⟨r1, k1, t1, u1, v1, B1, D1⟩ := take_ok B (n := 9) (by omega) (by decide) (by decide)
  obtain ⟨r2, k2, t2, u2, v2, B2, D2⟩ := take_ok B1 (n := 25000) (by omega) (by decide) (by decide)
  obtain ⟨r3, k3, t3, u3, v3, B3, D3⟩ := take_ok B2 (n := 4) (by omega) (by decide) (by decide)
  obtain ⟨st, e3, z3⟩ := menu4i 0 1 r1 r2 u3 v3
  have st0 : 0 ≤ st := by omega
  obtain ⟨w, k4, t4, u4, v4, B4, D4⟩ := take_ok B3 (n := 2) (by omega) (by decide) (by decide)
  obtain ⟨r5, k5, t5, u5, v5, B5, D5⟩ := take_ok B4 (n := 2 * p + 1) (by omega) (by omega) (by omega)
  obtain ⟨r6, k6, t6, u6, v6, B6, D6⟩ := take_ok B5 (n := 4) (by omega) (by decide) (by decide)
  obtain ⟨g, e6, z6⟩ := menu4i p (0 - p) (r5 - p) (p + 1) u6 v6
  obtain ⟨r7, k7, t7, u7, v7, B7, D7⟩ := take_ok B6 (n := 3) (by omega) (by decide) (by decide)
  have BB : Bag k7 b (20 + 8 * (i + 1)) := B7.mono (by omega)
  have D4' := ((D1.trans D2).trans D3).trans D4
  have D7' := ((D4'.trans D5).trans D6).trans D7
  have C04 : Clk k4 c0 p s0 f0 := (D4'.g c0 h0).trans C0
  have C14 : Clk k4 c1 p s1 f1 := (D4'.g c1 h1).trans C1
  have C07 : Clk k7 c0 p s0 f0 := (D7'.g c0 h0).trans C0
  have C17 : Clk k7 c1 p s1 f1 := (D7'.g c1 h1).trans C1
  have U0 := due_up st0 d0 F0
  have U1 := due_up st0 d1 F1
  have F0' : ∀ v, f0 = some v → v ≤ n + st + p := fun v hv => by have := F0 v hv; omega
  have F1' : ∀ v, f1 = some v → v ≤ n + st + p := fun v hv => by have := F1 v hv; omega
  have q0 := reading_ok (now := n + st) C04
  have q1 := reading_ok (now := n + st) C14
  have l0 := lag_is C04
  have l1 := lag_is C14
  have E04 := C04
  have E14 := C14
  unfold Clk at E04 E14
  have hw : w = 0 ∨ w = 1 := by omega
  have g0 : -p ≤ g := by omega
  have mm : ∀ h, pMul h (.int 2) (.int p) = some (.int (2 * p)) := fun h => pMul_ok (by omega)
  -- what is asked of the head of the lap
  have head : ∀ (l r : Int) (h8 : AH) (hl : (w = 0 ∧ l = s1 ∧ r = due (n + st) s1 f1) ∨ (w = 1 ∧ l = s0 ∧ r = due (n + st) s0 f0)), ((decide (0 < r7) = false ∧ h8 = k7) ∨ (decide (0 < r7) = true ∧ f_law_put [if w = 0 then .ref c0 else .ref c1, .int (n + st), .int g] k7 = .ok (.bl (decide (g ≤ p))) h8)) →
      L_law_9 [sc, at_, some (.ref b), some (.int p), some (.lst [.ref c0, .ref c1]), some (.int n), some (.lst [.int a0, .int a1]), some (.int i), x8, x9, x10, x11, x12, x13] h =
      R_law_1_5 [sc, at_, some (.ref b), some (.int p), some (.lst [.ref c0, .ref c1]), some (.int (n + st)), some (.lst [.int a0, .int a1]), some (.int i), some (.int w), some (.lst [.int l, .int r]), some (.int g), x11, x12, x13] h8 := by
    intro l r h8 hl hp
    rcases hl with ⟨rfl, rfl, rfl⟩ | ⟨rfl, rfl, rfl⟩
    · rcases hp with ⟨hp, rfl⟩ | ⟨hp, hq⟩
      · simp (disch := omega) only [fnM, eVar, eC, eBin, eUn, aNil, aCons, eTup, eLst, eLstN, eFn, eIf, eFld, eCall, eMeth, eMake, insOf, tst, tstB, MP.tAnd, MP.tOr, MP.tNot, eAnd, eOr, eNot, eChain, truth, optR, Res.bind, Res.bindS, sNil, sSeq, sExp, sRet, sRetN, sIf, sAsg, sSet, sPar, MP.sFld, MP.sFldAug, sFor, nxO, gNm, gFld, gIx, setIx, setFld, gsNil, gsCons, gTp, gLs, MP.iRng1, MP.iRng2, iSeq, iLst, MP.iTup, seqL, seqM, seqT, seqX, eIsi, tyName, isi_ii, isi_ib, isi_bi, isi_bb, isi_ni, isi_si, isi_ss, isi_is, isi_tt, isi_ti, isi_li, pAdd, pSub, pMul_ok, pDiv_ok, pMod_ok, pNeg, pLt, pLe, pGt, pGe, pEq, pNe, pEqB, sEq, pIs, pIsNot, isNon, pIx, fAbs, fMax2, fMin2, fInt, fLen, gSel, pick, AH.put_g, AH.put_n, AH.new_g, AH.new_n, AH.put_same, AH.new_same, AH.put_put, AH.new_put, List.length_cons, List.length_nil, List.map_cons, List.map_nil, List.cons_append, List.nil_append, List.append_nil, List.replicate, List.getElem?_cons_zero, List.getElem?_cons_succ, List.getElem?_nil, List.set_cons_zero, List.set_cons_succ, List.flatMap_cons, List.flatMap_nil, List.drop_zero, List.drop_succ_cons, List.drop_nil, List.take_succ_cons, List.take_zero, List.take_nil, List.contains_cons, List.contains_nil, Bool.or_false, Bool.or_true, Bool.true_or, Bool.false_or, Bool.and_true, Bool.and_false, Bool.not_true, Bool.not_false, beq_self_eq_true, Nat.reduceAdd, Nat.reduceSub, Nat.reduceLeDiff, Nat.reduceLT, Nat.reduceEqDiff, Nat.reduceBEq, Int.reduceToNat, ↓reduceIte, reduceIte, Bool.false_eq_true, ne_true_f, pow10_18, pow10_10, pow10_11, pow10_6, decide_eq_true_eq, and_self, and_true, true_and, Nat.zero_le, Option.map_some, Option.map_none, Option.bind_some, Int.reduceLT, Int.reduceLE, Int.reduceNeg, decide_true, decide_false, ixN_0, ixN_1, ixN_2, ixN_3, ixN_m1, atI_1, atI_2, atI_3, eq_self, Option.some.injEq, false_and, atI_0, Nat.zero_add, Nat.add_zero, sRaise, sRaise0, sTryO, noEx, fAny, fAll, blsL, compL, wipeD, CT.set, eComp, eCompN, tYesD, lstOk, List.any_cons, List.any_nil, List.all_cons, List.all_nil, id, List.length_append, List.zip_cons_cons, List.zip_nil_left, List.reverse_cons, List.reverse_nil, Clock_get_slack, Clock_set_slack, Clock_put_0, Clock_get_shift, Clock_set_shift, Clock_put_1, Clock_get_floor, Clock_set_floor, Clock_put_2, Clock_no_lag, Clock_no_reading, Clock_no_put, try_0_0, L_law_9, R_law_1_1, R_law_1_2, R_law_1_3, R_law_1_4, e_take, t1, t2, t3, t4, t5, t6, t7, e3, e6, q0, q1, l0, l1, E04, E14, mm, hp, Int.reduceSub]
      · simp only [↓reduceIte] at hq
        simp (disch := omega) only [fnM, eVar, eC, eBin, eUn, aNil, aCons, eTup, eLst, eLstN, eFn, eIf, eFld, eCall, eMeth, eMake, insOf, tst, tstB, MP.tAnd, MP.tOr, MP.tNot, eAnd, eOr, eNot, eChain, truth, optR, Res.bind, Res.bindS, sNil, sSeq, sExp, sRet, sRetN, sIf, sAsg, sSet, sPar, MP.sFld, MP.sFldAug, sFor, nxO, gNm, gFld, gIx, setIx, setFld, gsNil, gsCons, gTp, gLs, MP.iRng1, MP.iRng2, iSeq, iLst, MP.iTup, seqL, seqM, seqT, seqX, eIsi, tyName, isi_ii, isi_ib, isi_bi, isi_bb, isi_ni, isi_si, isi_ss, isi_is, isi_tt, isi_ti, isi_li, pAdd, pSub, pMul_ok, pDiv_ok, pMod_ok, pNeg, pLt, pLe, pGt, pGe, pEq, pNe, pEqB, sEq, pIs, pIsNot, isNon, pIx, fAbs, fMax2, fMin2, fInt, fLen, gSel, pick, AH.put_g, AH.put_n, AH.new_g, AH.new_n, AH.put_same, AH.new_same, AH.put_put, AH.new_put, List.length_cons, List.length_nil, List.map_cons, List.map_nil, List.cons_append, List.nil_append, List.append_nil, List.replicate, List.getElem?_cons_zero, List.getElem?_cons_succ, List.getElem?_nil, List.set_cons_zero, List.set_cons_succ, List.flatMap_cons, List.flatMap_nil, List.drop_zero, List.drop_succ_cons, List.drop_nil, List.take_succ_cons, List.take_zero, List.take_nil, List.contains_cons, List.contains_nil, Bool.or_false, Bool.or_true, Bool.true_or, Bool.false_or, Bool.and_true, Bool.and_false, Bool.not_true, Bool.not_false, beq_self_eq_true, Nat.reduceAdd, Nat.reduceSub, Nat.reduceLeDiff, Nat.reduceLT, Nat.reduceEqDiff, Nat.reduceBEq, Int.reduceToNat, ↓reduceIte, reduceIte, Bool.false_eq_true, ne_true_f, pow10_18, pow10_10, pow10_11, pow10_6, decide_eq_true_eq, and_self, and_true, true_and, Nat.zero_le, Option.map_some, Option.map_none, Option.bind_some, Int.reduceLT, Int.reduceLE, Int.reduceNeg, decide_true, decide_false, ixN_0, ixN_1, ixN_2, ixN_3, ixN_m1, atI_1, atI_2, atI_3, eq_self, Option.some.injEq, false_and, atI_0, Nat.zero_add, Nat.add_zero, sRaise, sRaise0, sTryO, noEx, fAny, fAll, blsL, compL, wipeD, CT.set, eComp, eCompN, tYesD, lstOk, List.any_cons, List.any_nil, List.all_cons, List.all_nil, id, List.length_append, List.zip_cons_cons, List.zip_nil_left, List.reverse_cons, List.reverse_nil, Clock_get_slack, Clock_set_slack, Clock_put_0, Clock_get_shift, Clock_set_shift, Clock_put_1, Clock_get_floor, Clock_set_floor, Clock_put_2, Clock_no_lag, Clock_no_reading, Clock_no_put, try_0_0, L_law_9, R_law_1_1, R_law_1_2, R_law_1_3, R_law_1_4, e_take, t1, t2, t3, t4, t5, t6, t7, e3, e6, q0, q1, l0, l1, E04, E14, mm, hp, hq, Int.reduceSub]
    · rcases hp with ⟨hp, rfl⟩ | ⟨hp, hq⟩
      · simp (disch := omega) only [fnM, eVar, eC, eBin, eUn, aNil, aCons, eTup, eLst, eLstN, eFn, eIf, eFld, eCall, eMeth, eMake, insOf, tst, tstB, MP.tAnd, MP.tOr, MP.tNot, eAnd, eOr, eNot, eChain, truth, optR, Res.bind, Res.bindS, sNil, sSeq, sExp, sRet, sRetN, sIf, sAsg, sSet, sPar, MP.sFld, MP.sFldAug, sFor, nxO, gNm, gFld, gIx, setIx, setFld, gsNil, gsCons, gTp, gLs, MP.iRng1, MP.iRng2, iSeq, iLst, MP.iTup, seqL, seqM, seqT, seqX, eIsi, tyName, isi_ii, isi_ib, isi_bi, isi_bb, isi_ni, isi_si, isi_ss, isi_is, isi_tt, isi_ti, isi_li, pAdd, pSub, pMul_ok, pDiv_ok, pMod_ok, pNeg, pLt, pLe, pGt, pGe, pEq, pNe, pEqB, sEq, pIs, pIsNot, isNon, pIx, fAbs, fMax2, fMin2, fInt, fLen, gSel, pick, AH.put_g, AH.put_n, AH.new_g, AH.new_n, AH.put_same, AH.new_same, AH.put_put, AH.new_put, List.length_cons, List.length_nil, List.map_cons, List.map_nil, List.cons_append, List.nil_append, List.append_nil, List.replicate, List.getElem?_cons_zero, List.getElem?_cons_succ, List.getElem?_nil, List.set_cons_zero, List.set_cons_succ, List.flatMap_cons, List.flatMap_nil, List.drop_zero, List.drop_succ_cons, List.drop_nil, List.take_succ_cons, List.take_zero, List.take_nil, List.contains_cons, List.contains_nil, Bool.or_false, Bool.or_true, Bool.true_or, Bool.false_or, Bool.and_true, Bool.and_false, Bool.not_true, Bool.not_false, beq_self_eq_true, Nat.reduceAdd, Nat.reduceSub, Nat.reduceLeDiff, Nat.reduceLT, Nat.reduceEqDiff, Nat.reduceBEq, Int.reduceToNat, ↓reduceIte, reduceIte, Bool.false_eq_true, ne_true_f, pow10_18, pow10_10, pow10_11, pow10_6, decide_eq_true_eq, and_self, and_true, true_and, Nat.zero_le, Option.map_some, Option.map_none, Option.bind_some, Int.reduceLT, Int.reduceLE, Int.reduceNeg, decide_true, decide_false, ixN_0, ixN_1, ixN_2, ixN_3, ixN_m1, atI_1, atI_2, atI_3, eq_self, Option.some.injEq, false_and, atI_0, Nat.zero_add, Nat.add_zero, sRaise, sRaise0, sTryO, noEx, fAny, fAll, blsL, compL, wipeD, CT.set, eComp, eCompN, tYesD, lstOk, List.any_cons, List.any_nil, List.all_cons, List.all_nil, id, List.length_append, List.zip_cons_cons, List.zip_nil_left, List.reverse_cons, List.reverse_nil, Clock_get_slack, Clock_set_slack, Clock_put_0, Clock_get_shift, Clock_set_shift, Clock_put_1, Clock_get_floor, Clock_set_floor, Clock_put_2, Clock_no_lag, Clock_no_reading, Clock_no_put, try_0_0, L_law_9, R_law_1_1, R_law_1_2, R_law_1_3, R_law_1_4, e_take, t1, t2, t3, t4, t5, t6, t7, e3, e6, q0, q1, l0, l1, E04, E14, mm, hp, Int.reduceSub]
      · rw [if_neg (by decide)] at hq
        simp (disch := omega) only [fnM, eVar, eC, eBin, eUn, aNil, aCons, eTup, eLst, eLstN, eFn, eIf, eFld, eCall, eMeth, eMake, insOf, tst, tstB, MP.tAnd, MP.tOr, MP.tNot, eAnd, eOr, eNot, eChain, truth, optR, Res.bind, Res.bindS, sNil, sSeq, sExp, sRet, sRetN, sIf, sAsg, sSet, sPar, MP.sFld, MP.sFldAug, sFor, nxO, gNm, gFld, gIx, setIx, setFld, gsNil, gsCons, gTp, gLs, MP.iRng1, MP.iRng2, iSeq, iLst, MP.iTup, seqL, seqM, seqT, seqX, eIsi, tyName, isi_ii, isi_ib, isi_bi, isi_bb, isi_ni, isi_si, isi_ss, isi_is, isi_tt, isi_ti, isi_li, pAdd, pSub, pMul_ok, pDiv_ok, pMod_ok, pNeg, pLt, pLe, pGt, pGe, pEq, pNe, pEqB, sEq, pIs, pIsNot, isNon, pIx, fAbs, fMax2, fMin2, fInt, fLen, gSel, pick, AH.put_g, AH.put_n, AH.new_g, AH.new_n, AH.put_same, AH.new_same, AH.put_put, AH.new_put, List.length_cons, List.length_nil, List.map_cons, List.map_nil, List.cons_append, List.nil_append, List.append_nil, List.replicate, List.getElem?_cons_zero, List.getElem?_cons_succ, List.getElem?_nil, List.set_cons_zero, List.set_cons_succ, List.flatMap_cons, List.flatMap_nil, List.drop_zero, List.drop_succ_cons, List.drop_nil, List.take_succ_cons, List.take_zero, List.take_nil, List.contains_cons, List.contains_nil, Bool.or_false, Bool.or_true, Bool.true_or, Bool.false_or, Bool.and_true, Bool.and_false, Bool.not_true, Bool.not_false, beq_self_eq_true, Nat.reduceAdd, Nat.reduceSub, Nat.reduceLeDiff, Nat.reduceLT, Nat.reduceEqDiff, Nat.reduceBEq, Int.reduceToNat, ↓reduceIte, reduceIte, Bool.false_eq_true, ne_true_f, pow10_18, pow10_10, pow10_11, pow10_6, decide_eq_true_eq, and_self, and_true, true_and, Nat.zero_le, Option.map_some, Option.map_none, Option.bind_some, Int.reduceLT, Int.reduceLE, Int.reduceNeg, decide_true, decide_false, ixN_0, ixN_1, ixN_2, ixN_3, ixN_m1, atI_1, atI_2, atI_3, eq_self, Option.some.injEq, false_and, atI_0, Nat.zero_add, Nat.add_zero, sRaise, sRaise0, sTryO, noEx, fAny, fAll, blsL, compL, wipeD, CT.set, eComp, eCompN, tYesD, lstOk, List.any_cons, List.any_nil, List.all_cons, List.all_nil, id, List.length_append, List.zip_cons_cons, List.zip_nil_left, List.reverse_cons, List.reverse_nil, Clock_get_slack, Clock_set_slack, Clock_put_0, Clock_get_shift, Clock_set_shift, Clock_put_1, Clock_get_floor, Clock_set_floor, Clock_put_2, Clock_no_lag, Clock_no_reading, Clock_no_put, try_0_0, L_law_9, R_law_1_1, R_law_1_2, R_law_1_3, R_law_1_4, e_take, t1, t2, t3, t4, t5, t6, t7, e3, e6, q0, q1, l0, l1, E04, E14, mm, hp, hq, Int.reduceSub]
  have hw2 : ∃ l r, (w = 0 ∧ l = s1 ∧ r = due (n + st) s1 f1) ∨ (w = 1 ∧ l = s0 ∧ r = due (n + st) s0 f0) := by
    rcases hw with rfl | rfl
    · exact ⟨_, _, .inl ⟨rfl, rfl, rfl⟩⟩
    · exact ⟨_, _, .inr ⟨rfl, rfl, rfl⟩⟩
  obtain ⟨l, r, hl⟩ := hw2
  by_cases hput : 0 < r7 ∧ g ≤ p
  · have hd : decide (0 < r7) = true := decide_eq_true hput.1
    have hg : decide (g ≤ p) = true := decide_eq_true hput.2
    have gb : -p ≤ g ∧ g ≤ p := ⟨g0, hput.2⟩
    rcases hl with ⟨rfl, hl⟩ | ⟨rfl, hl⟩
    · have P := lawput_ok (now := n + st) C07 g0 hput.2
      have V := due_put (n := n + st) gb U0.2.2
      have C0n : Clk (k7.put c0 (.ins 1 [("slack", .int p), ("shift", .int g), ("floor", .int (due (n + st) s0 f0))])) c0 p g (some (due (n + st) s0 f0)) := AH.put_same ..
      have C1n : Clk (k7.put c0 (.ins 1 [("slack", .int p), ("shift", .int g), ("floor", .int (due (n + st) s0 f0))])) c1 p s1 f1 := (AH.put_ne h01.symm).trans C17
      refine ⟨_, _, _, _, rfl, .inl ((head l r _ (.inl ⟨rfl, hl⟩) (.inr ⟨hd, by rw [if_pos rfl, hg]; exact P⟩)).trans (tail_ok C0n C1n (.inl ⟨rfl, hl⟩) V.2 U1.2 (by omega) (by omega))), ⟨⟨_, _, _, _, _, _, _, _, _, _, _, _, _, _, rfl, C0n, C1n, gb, d1, ?_, F1', Int.le_refl _, Int.le_refl _⟩, BB.keep (AH.put_ne h0.symm)⟩⟩
      intro v hv
      cases hv
      omega
    · have P := lawput_ok (now := n + st) C17 g0 hput.2
      have V := due_put (n := n + st) gb U1.2.2
      have C1n : Clk (k7.put c1 (.ins 1 [("slack", .int p), ("shift", .int g), ("floor", .int (due (n + st) s1 f1))])) c1 p g (some (due (n + st) s1 f1)) := AH.put_same ..
      have C0n : Clk (k7.put c1 (.ins 1 [("slack", .int p), ("shift", .int g), ("floor", .int (due (n + st) s1 f1))])) c0 p s0 f0 := (AH.put_ne h01).trans C07
      refine ⟨_, _, _, _, rfl, .inl ((head l r _ (.inr ⟨rfl, hl⟩) (.inr ⟨hd, by rw [if_neg (by decide), hg]; exact P⟩)).trans (tail_ok C0n C1n (.inr ⟨rfl, hl⟩) U0.2 V.2 (by omega) (by omega))), ⟨⟨_, _, _, _, _, _, _, _, _, _, _, _, _, _, rfl, C0n, C1n, d0, gb, F0', ?_, Int.le_refl _, Int.le_refl _⟩, BB.keep (AH.put_ne h1.symm)⟩⟩
      intro v hv
      cases hv
      omega
  · have hp : (decide (0 < r7) = false ∧ k7 = k7) ∨ (decide (0 < r7) = true ∧ f_law_put [if w = 0 then .ref c0 else .ref c1, .int (n + st), .int g] k7 = .ok (.bl (decide (g ≤ p))) k7) := by
      by_cases hr : 0 < r7
      · have hg : p < g := by omega
        refine .inr ⟨decide_eq_true hr, ?_⟩
        rw [decide_eq_false (by omega : ¬ g ≤ p)]
        split
        · exact lawput_no C07 hg
        · exact lawput_no C17 hg
      · exact .inl ⟨decide_eq_false hr, rfl⟩
    exact ⟨_, _, _, _, rfl, .inl ((head l r _ hl hp).trans (tail_ok C07 C17 hl U0.2 U1.2 (by omega) (by omega))), ⟨⟨_, _, _, _, _, _, _, _, _, _, _, _, _, _, rfl, C07, C17, d0, d1, F0', F1', Int.le_refl _, Int.le_refl _⟩, BB⟩⟩
theorem laps_ok {sc at_ : Option D} {b c0 c1 : Nat} {p k : Int} {s : Sl} {h : AH} (h0 : c0 ≠ b) (h1 : c1 ≠ b) (h01 : c0 ≠ c1) (p0 : 0 ≤ p) (p1 : p ≤ 9999) (n0 : 0 ≤ k) (n1 : k ≤ 28) (L : Lap sc at_ b c0 c1 p 0 s h) :
    ∃ s' h', forL (fun _ => true) (gNm 7) L_law_9 (rng 0 k) s h = .nx s' h' ∧ Lap sc at_ b c0 c1 p k s' h' :=
  forR (fun i s h => i ≤ k ∧ Lap sc at_ b c0 c1 p i s h) n0 ⟨n0, L⟩ (fun i s h i0 i1 L => by
    obtain ⟨s1, h1, s2, h2, e1, e2, L2⟩ := lap_ok h0 h1 h01 p0 p1 i0 (by omega) L.2
    exact ⟨s1, h1, s2, h2, e1, e2, by omega, L2⟩) |> fun ⟨s', h', e, _, L⟩ => ⟨s', h', e, L⟩
theorem round_ok (ns : List Int) (i : Int) (i0 : 0 ≤ i) (i1 : i < 4) (s : Sl) (h : AH) (hs : ∃ x1 x2 x3 x4 x5 x6 x7 x8 x9 x10 x11 x12 x13, s = [some (.fz (ns.map .int)), x1, x2, x3, x4, x5, x6, x7, x8, x9, x10, x11, x12, x13]) :
    ∃ s1 h1 s2 h2, gNm 1 (.int i) s h = some (s1, h1) ∧ (L_law_14 s1 h1 = .nx s2 h2 ∨ L_law_14 s1 h1 = .ct s2 h2) ∧ ∃ x1 x2 x3 x4 x5 x6 x7 x8 x9 x10 x11 x12 x13, s2 = [some (.fz (ns.map .int)), x1, x2, x3, x4, x5, x6, x7, x8, x9, x10, x11, x12, x13] := by
  obtain ⟨x1, x2, x3, x4, x5, x6, x7, x8, x9, x10, x11, x12, x13, rfl⟩ := hs
  obtain ⟨a, rfl⟩ : ∃ a : Nat, i = a := ⟨i.toNat, by omega⟩
  obtain ⟨o, tb, B0⟩ := bagA_ok ns a (by omega) h
  obtain ⟨r1, k1, t1, u1, v1, B1, D1⟩ := take_ok B0 (n := 5) (by omega) (by decide) (by decide)
  obtain ⟨r2, k2, t2, u2, v2, B2, D2⟩ := take_ok B1 (n := 10000) (by omega) (by decide) (by decide)
  obtain ⟨r3, k3, t3, u3, v3, B3, D3⟩ := take_ok B2 (n := 4) (by omega) (by decide) (by decide)
  obtain ⟨p, e3, z3⟩ := menu4i 0 (1 + r1) r2 9999 u3 v3
  have p0 : 0 ≤ p := by omega
  have p1 : p ≤ 9999 := by omega
  have n3 : k3.n = h.n + 1 := ((D1.trans D2).trans D3).n
  have I4 := init_ok k3 p
  have B4 : Bag (k3.new (.ins 1 [("slack", .int p), ("shift", .int 0), ("floor", .non)])) h.n 3 := (B3.keep (AH.new_ne (by omega))).mono (by omega)
  have C4 : Clk (k3.new (.ins 1 [("slack", .int p), ("shift", .int 0), ("floor", .non)])) k3.n p 0 none := AH.new_same ..
  have n4 : (k3.new (.ins 1 [("slack", .int p), ("shift", .int 0), ("floor", .non)])).n = k3.n + 1 := rfl
  have mk4 : k3.new (.ins 1 [("slack", .int p), ("shift", .int 0), ("floor", .non)]) = k3.new (.ins 1 [("slack", .int p), ("shift", .int 0), ("floor", .non)]) := rfl
  revert I4 B4 C4 n4 mk4
  generalize hk4 : k3.new (.ins 1 [("slack", .int p), ("shift", .int 0), ("floor", .non)]) = k4
  intro I4 B4 C4 n4 _
  have I5 := init_ok k4 p
  have B5 : Bag (k4.new (.ins 1 [("slack", .int p), ("shift", .int 0), ("floor", .non)])) h.n 3 := B4.keep (AH.new_ne (by omega))
  have C05 : Clk (k4.new (.ins 1 [("slack", .int p), ("shift", .int 0), ("floor", .non)])) k3.n p 0 none := (AH.new_ne (by omega)).trans C4
  have C15 : Clk (k4.new (.ins 1 [("slack", .int p), ("shift", .int 0), ("floor", .non)])) k4.n p 0 none := AH.new_same ..
  revert I5 B5 C05 C15
  generalize hk5 : k4.new (.ins 1 [("slack", .int p), ("shift", .int 0), ("floor", .non)]) = k5
  intro I5 B5 C05 C15
  obtain ⟨r6, k6, t6, u6, v6, B6, D6⟩ := take_ok B5 (n := 2000) (by omega) (by decide) (by decide)
  obtain ⟨r7, k7, t7, u7, v7, B7, D7⟩ := take_ok B6 (n := 100000000000) (by omega) (by decide) (by decide)
  obtain ⟨r8, k8, t8, u8, v8, B8, D8⟩ := take_ok B7 (n := 3) (by omega) (by decide) (by decide)
  obtain ⟨n, e8, z8⟩ := menu3i 0 (r6 - 1000) (0 - r7) u8 v8
  have D8' := (D6.trans D7).trans D8
  have C08 : Clk k8 k3.n p 0 none := (D8'.g _ (by omega)).trans C05
  have C18 : Clk k8 k4.n p 0 none := (D8'.g _ (by omega)).trans C15
  have q0 := reading_ok (now := n) C08
  have q1 := reading_ok (now := n) C18
  have E08 := C08
  have E18 := C18
  unfold Clk at E08 E18
  obtain ⟨rl, k9, t9, u9, v9, B9, D9⟩ := take_ok B8 (n := 24) (by omega) (by decide) (by decide)
  have C09 : Clk k9 k3.n p 0 none := (D9.g _ (by omega)).trans C08
  have C19 : Clk k9 k4.n p 0 none := (D9.g _ (by omega)).trans C18
  have hg := rngG (n := 4 + rl) (by omega) (by omega)
  obtain ⟨s', h', e, ⟨⟨n', a0, a1, s0, s1, f0, f1, y7, y8, y9, y10, y11, y12, y13, es, _⟩, _⟩⟩ := laps_ok (sc := some (.fz (ns.map .int))) (at_ := some (.int a)) (p := p) (k := 4 + rl) (by omega) (by omega) (by omega) p0 p1 (by omega) (by omega)
    (show Lap (some (.fz (ns.map .int))) (some (.int a)) h.n k3.n k4.n p 0 [some (.fz (ns.map .int)), some (.int a), some (.ref h.n), some (.int p), some (.lst [.ref k3.n, .ref k4.n]), some (.int n), some (.lst [.int (due n 0 none), .int (due n 0 none)]), x7, x8, x9, x10, x11, x12, x13] k9 from
      ⟨⟨_, _, _, _, _, _, _, _, _, _, _, _, _, _, rfl, C09, C19, by omega, by omega, nofun, nofun, Int.le_refl _, Int.le_refl _⟩, B9.mono (by omega)⟩)
  refine ⟨_, _, s', h', rfl, .inl ?_, _, _, _, _, _, _, _, _, _, _, _, _, _, es⟩
  simp (disch := omega) only [fnM, eVar, eC, eBin, eUn, aNil, aCons, eTup, eLst, eLstN, eFn, eIf, eFld, eCall, eMeth, eMake, insOf, tst, tstB, MP.tAnd, MP.tOr, MP.tNot, eAnd, eOr, eNot, eChain, truth, optR, Res.bind, Res.bindS, sNil, sSeq, sExp, sRet, sRetN, sIf, sAsg, sSet, sPar, MP.sFld, MP.sFldAug, sFor, nxO, gNm, gFld, gIx, setIx, setFld, gsNil, gsCons, gTp, gLs, MP.iRng1, MP.iRng2, iSeq, iLst, MP.iTup, seqL, seqM, seqT, seqX, eIsi, tyName, isi_ii, isi_ib, isi_bi, isi_bb, isi_ni, isi_si, isi_ss, isi_is, isi_tt, isi_ti, isi_li, pAdd, pSub, pMul_ok, pDiv_ok, pMod_ok, pNeg, pLt, pLe, pGt, pGe, pEq, pNe, pEqB, sEq, pIs, pIsNot, isNon, pIx, fAbs, fMax2, fMin2, fInt, fLen, gSel, pick, AH.put_g, AH.put_n, AH.new_g, AH.new_n, AH.put_same, AH.new_same, AH.put_put, AH.new_put, List.length_cons, List.length_nil, List.map_cons, List.map_nil, List.cons_append, List.nil_append, List.append_nil, List.replicate, List.getElem?_cons_zero, List.getElem?_cons_succ, List.getElem?_nil, List.set_cons_zero, List.set_cons_succ, List.flatMap_cons, List.flatMap_nil, List.drop_zero, List.drop_succ_cons, List.drop_nil, List.take_succ_cons, List.take_zero, List.take_nil, List.contains_cons, List.contains_nil, Bool.or_false, Bool.or_true, Bool.true_or, Bool.false_or, Bool.and_true, Bool.and_false, Bool.not_true, Bool.not_false, beq_self_eq_true, Nat.reduceAdd, Nat.reduceSub, Nat.reduceLeDiff, Nat.reduceLT, Nat.reduceEqDiff, Nat.reduceBEq, Int.reduceToNat, ↓reduceIte, reduceIte, Bool.false_eq_true, ne_true_f, pow10_18, pow10_10, pow10_11, pow10_6, decide_eq_true_eq, and_self, and_true, true_and, Nat.zero_le, Option.map_some, Option.map_none, Option.bind_some, Int.reduceLT, Int.reduceLE, Int.reduceNeg, decide_true, decide_false, ixN_0, ixN_1, ixN_2, ixN_3, ixN_m1, atI_1, atI_2, atI_3, eq_self, Option.some.injEq, false_and, atI_0, Nat.zero_add, Nat.add_zero, sRaise, sRaise0, sTryO, noEx, fAny, fAll, blsL, compL, wipeD, CT.set, eComp, eCompN, tYesD, lstOk, List.any_cons, List.any_nil, List.all_cons, List.all_nil, id, List.length_append, List.zip_cons_cons, List.zip_nil_left, List.reverse_cons, List.reverse_nil, Clock_get_slack, Clock_set_slack, Clock_put_0, Clock_get_shift, Clock_set_shift, Clock_put_1, Clock_get_floor, Clock_set_floor, Clock_put_2, Clock_no_lag, Clock_no_reading, Clock_no_put, try_0_0, L_law_14, R_law_2_1, R_law_2_2, R_law_2_3, R_law_2_4, hg, tb, t1, t2, t3, e3, I4, I5, t6, t7, t8, e8, q0, q1, E08, E18, t9, e, e_take, e_bag]
theorem law_true : LawTrue f_law := by
  intro ns hns
  have hm : 0 ≤ (if (if (ns.length : Int) < 4 then (ns.length : Int) else 4) > 1 then (if (ns.length : Int) < 4 then (ns.length : Int) else 4) else 1) ∧ (if (if (ns.length : Int) < 4 then (ns.length : Int) else 4) > 1 then (if (ns.length : Int) < 4 then (ns.length : Int) else 4) else 1) ≤ 4 := by
    split <;> split <;> omega
  obtain ⟨s', h', e, x1, x2, x3, x4, x5, x6, x7, x8, x9, x10, x11, x12, x13, rfl⟩ := forR (g := gNm 1) (b := L_law_14) (fun _ s _ => ∃ x1 x2 x3 x4 x5 x6 x7 x8 x9 x10 x11 x12 x13, s = [some (.fz (ns.map .int)), x1, x2, x3, x4, x5, x6, x7, x8, x9, x10, x11, x12, x13])
    (s := [some (.fz (ns.map .int)), none, none, none, none, none, none, none, none, none, none, none, none, none]) (h := ah0) hm.1 ⟨_, _, _, _, _, _, _, _, _, _, _, _, _, rfl⟩ (fun i s h i0 i1 P => round_ok ns i i0 (by omega) s h P)
  have hg := rngG hm.1 (by omega)
  refine ⟨h', ?_⟩
  simp (disch := omega) only [fnM, eVar, eC, eBin, eUn, aNil, aCons, eTup, eLst, eLstN, eFn, eIf, eFld, eCall, eMeth, eMake, insOf, tst, tstB, MP.tAnd, MP.tOr, MP.tNot, eAnd, eOr, eNot, eChain, truth, optR, Res.bind, Res.bindS, sNil, sSeq, sExp, sRet, sRetN, sIf, sAsg, sSet, sPar, MP.sFld, MP.sFldAug, sFor, nxO, gNm, gFld, gIx, setIx, setFld, gsNil, gsCons, gTp, gLs, MP.iRng1, MP.iRng2, iSeq, iLst, MP.iTup, seqL, seqM, seqT, seqX, eIsi, tyName, isi_ii, isi_ib, isi_bi, isi_bb, isi_ni, isi_si, isi_ss, isi_is, isi_tt, isi_ti, isi_li, pAdd, pSub, pMul_ok, pDiv_ok, pMod_ok, pNeg, pLt, pLe, pGt, pGe, pEq, pNe, pEqB, sEq, pIs, pIsNot, isNon, pIx, fAbs, fMax2, fMin2, fInt, fLen, gSel, pick, AH.put_g, AH.put_n, AH.new_g, AH.new_n, AH.put_same, AH.new_same, AH.put_put, AH.new_put, List.length_cons, List.length_nil, List.map_cons, List.map_nil, List.cons_append, List.nil_append, List.append_nil, List.replicate, List.getElem?_cons_zero, List.getElem?_cons_succ, List.getElem?_nil, List.set_cons_zero, List.set_cons_succ, List.flatMap_cons, List.flatMap_nil, List.drop_zero, List.drop_succ_cons, List.drop_nil, List.take_succ_cons, List.take_zero, List.take_nil, List.contains_cons, List.contains_nil, Bool.or_false, Bool.or_true, Bool.true_or, Bool.false_or, Bool.and_true, Bool.and_false, Bool.not_true, Bool.not_false, beq_self_eq_true, Nat.reduceAdd, Nat.reduceSub, Nat.reduceLeDiff, Nat.reduceLT, Nat.reduceEqDiff, Nat.reduceBEq, Int.reduceToNat, ↓reduceIte, reduceIte, Bool.false_eq_true, ne_true_f, pow10_18, pow10_10, pow10_11, pow10_6, decide_eq_true_eq, and_self, and_true, true_and, Nat.zero_le, Option.map_some, Option.map_none, Option.bind_some, Int.reduceLT, Int.reduceLE, Int.reduceNeg, decide_true, decide_false, ixN_0, ixN_1, ixN_2, ixN_3, ixN_m1, atI_1, atI_2, atI_3, eq_self, Option.some.injEq, false_and, atI_0, Nat.zero_add, Nat.add_zero, sRaise, sRaise0, sTryO, noEx, fAny, fAll, blsL, compL, wipeD, CT.set, eComp, eCompN, tYesD, lstOk, List.any_cons, List.any_nil, List.all_cons, List.all_nil, id, List.length_append, List.zip_cons_cons, List.zip_nil_left, List.reverse_cons, List.reverse_nil, Clock_get_slack, Clock_set_slack, Clock_put_0, Clock_get_shift, Clock_set_shift, Clock_put_1, Clock_get_floor, Clock_set_floor, Clock_put_2, Clock_no_lag, Clock_no_reading, Clock_no_put, try_0_0, f_law, b_law, hg, List.length_map, e]
end K34
set_option Elab.async false
set_option linter.all false
set_option maxRecDepth 100000
set_option maxHeartbeats 4000000
namespace K34
open PySem PySem.Spec L2 MP
open PyProof.Rows hiding St
def top (i : Nat) : Stmt := PySem.Challenge.pw_leasepair_k34_whole_clocks_within_the_sl.main.body.getD i (.Pass ⟨0, 0, 0, 0⟩)
abbrev s_is_whole : Stmt := top 3
abbrev N_is_whole : List Str := ["thing"]
theorem sc_is_whole : FnScope N_is_whole ["thing"] (defScope s_is_whole) := ⟨rfl, rfl, rfl, by decide +kernel, rfl, by decide +kernel, by decide +kernel⟩
abbrev s_is_within : Stmt := top 4
abbrev N_is_within : List Str := ["thing", "least", "most"]
theorem sc_is_within : FnScope N_is_within ["thing", "least", "most"] (defScope s_is_within) := ⟨rfl, rfl, rfl, by decide +kernel, rfl, by decide +kernel, by decide +kernel⟩
abbrev s_Clock_init : Stmt := inClass (top 7) 0
abbrev N_Clock_init : List Str := ["self", "slack"]
theorem sc_Clock_init : FnScope N_Clock_init ["self", "slack"] (defScope s_Clock_init) := ⟨rfl, rfl, rfl, by decide +kernel, rfl, by decide +kernel, by decide +kernel⟩
abbrev s_Clock_lag : Stmt := inClass (top 7) 1
abbrev N_Clock_lag : List Str := ["self"]
theorem sc_Clock_lag : FnScope N_Clock_lag ["self"] (defScope s_Clock_lag) := ⟨rfl, rfl, rfl, by decide +kernel, rfl, by decide +kernel, by decide +kernel⟩
abbrev s_Clock_reading : Stmt := inClass (top 7) 2
abbrev N_Clock_reading : List Str := ["self", "now"]
theorem sc_Clock_reading : FnScope N_Clock_reading ["self", "now"] (defScope s_Clock_reading) := ⟨rfl, rfl, rfl, by decide +kernel, rfl, by decide +kernel, by decide +kernel⟩
abbrev s_NoClock_init : Stmt := inClass (top 1) 0
abbrev N_NoClock_init : List Str := ["self", "asked", "slack"]
theorem sc_NoClock_init : FnScope N_NoClock_init ["self", "asked", "slack"] (defScope s_NoClock_init) := ⟨rfl, rfl, rfl, by decide +kernel, rfl, by decide +kernel, by decide +kernel⟩
abbrev s_Clock_put : Stmt := inClass (top 7) 3
abbrev N_Clock_put : List Str := ["self", "now", "lag"]
theorem sc_Clock_put : FnScope N_Clock_put ["self", "now", "lag"] (defScope s_Clock_put) := ⟨rfl, rfl, rfl, by decide +kernel, rfl, by decide +kernel, by decide +kernel⟩
abbrev s_law_bag : Stmt := top 9
abbrev N_law_bag : List Str := ["_law_script", "_law_at", "_law_cell"]
theorem sc_law_bag : FnScope N_law_bag ["_law_script", "_law_at"] (defScope s_law_bag) := ⟨rfl, rfl, rfl, by decide +kernel, rfl, by decide +kernel, by decide +kernel⟩
abbrev s_law_take : Stmt := top 10
abbrev N_law_take : List Str := ["_law_bag_here", "_law_many", "_law_digit", "_law_primes", "_law_step", "_law_base", "_law_here"]
theorem sc_law_take : FnScope N_law_take ["_law_bag_here", "_law_many"] (defScope s_law_take) := ⟨rfl, rfl, rfl, by decide +kernel, rfl, by decide +kernel, by decide +kernel⟩
abbrev s_law_put : Stmt := top 11
abbrev N_law_put : List Str := ["_law_clock", "_law_now", "_law_shift"]
theorem sc_law_put : FnScope N_law_put ["_law_clock", "_law_now", "_law_shift"] (defScope s_law_put) := ⟨rfl, rfl, rfl, by decide +kernel, rfl, by decide +kernel, by decide +kernel⟩
abbrev s_law : Stmt := top 12
abbrev N_law : List Str := ["_law_script", "_law_at", "_law_bag_here", "_law_play", "_law_clocks", "_law_now", "_law_ahead", "_law_lap", "_law_which", "_law_other", "_law_shift", "_law_here", "_law_clock", "_law_reading"]
theorem sc_law : FnScope N_law ["_law_script"] (defScope s_law) := ⟨rfl, rfl, rfl, by decide +kernel, rfl, by decide +kernel, by decide +kernel⟩
def d_is_whole : He.DefD := ⟨("is_whole", none), "is_whole", "is_whole", defArgs s_is_whole, defBody s_is_whole, defScope s_is_whole, [], []⟩
def d_is_within : He.DefD := ⟨("is_within", none), "is_within", "is_within", defArgs s_is_within, defBody s_is_within, defScope s_is_within, [], []⟩
def d_Clock_init : He.DefD := ⟨("Clock", some "__init__"), "__init__", "Clock.__init__", defArgs s_Clock_init, defBody s_Clock_init, defScope s_Clock_init, [], [("slack", .int 2)]⟩
def d_Clock_lag : He.DefD := ⟨("Clock", some "lag"), "lag", "Clock.lag", defArgs s_Clock_lag, defBody s_Clock_lag, defScope s_Clock_lag, [], []⟩
def d_Clock_reading : He.DefD := ⟨("Clock", some "reading"), "reading", "Clock.reading", defArgs s_Clock_reading, defBody s_Clock_reading, defScope s_Clock_reading, [], []⟩
def d_NoClock_init : He.DefD := ⟨("NoClock", some "__init__"), "__init__", "NoClock.__init__", defArgs s_NoClock_init, defBody s_NoClock_init, defScope s_NoClock_init, [], []⟩
def d_Clock_put : He.DefD := ⟨("Clock", some "put"), "put", "Clock.put", defArgs s_Clock_put, defBody s_Clock_put, defScope s_Clock_put, [], []⟩
def d_law_bag : He.DefD := ⟨("_law_bag", none), "_law_bag", "_law_bag", defArgs s_law_bag, defBody s_law_bag, defScope s_law_bag, [], []⟩
def d_law_take : He.DefD := ⟨("_law_take", none), "_law_take", "_law_take", defArgs s_law_take, defBody s_law_take, defScope s_law_take, [], []⟩
def d_law_put : He.DefD := ⟨("_law_put", none), "_law_put", "_law_put", defArgs s_law_put, defBody s_law_put, defScope s_law_put, [], []⟩
def d_law : He.DefD := ⟨("law", none), "law", "law", defArgs s_law, defBody s_law, defScope s_law, [], []⟩
def fns : List He.DefD := [d_is_whole, d_is_within, d_Clock_init, d_Clock_lag, d_Clock_reading, d_NoClock_init, d_Clock_put, d_law_bag, d_law_take, d_law_put, d_law]
def fa : List He.Fa := [.free "isinstance", .free "int", .free "bool", .glo "is_whole", .cls "Clock", .noat "Clock" "slack", .noat "Clock" "shift", .noat "Clock" "floor", .free "max", .glo "is_within", .glo "NoClock", .meth "Clock" "reading", .free "len", .free "abs", .meth "Clock" "put", .exm "NoClock" "NoClock" true, .free "min", .free "range", .glo "_law_bag", .glo "_law_take", .mkr "Clock", .glo "Clock", .meth "Clock" "lag", .glo "_law_put", .free "any", .glo "law"]
def xa : List XFa := [.ini "NoClock", .xk "NoClock" "ArithmeticError.__new__" [.type "ArithmeticError", .type "Exception", .type "BaseException", .type "object"], .tk "NoClock" "asked", .tk "NoClock" "slack"]
def Tc (K : PySem.W.Frag) : Nat → Addr
  | 0 => He.ga K "NoClock"
  | 1 => He.ga K "Clock"
  | _ => 0
structure Ctx (K : PySem.W.Frag) (mg : Str → Option Value) : Prop where
  c : He.SaysD fa fns K
  x : xAll xa K = true
  h : ∃ hp : Heap, K.In hp ∧ hp.Ns mainGlobals mg
section
variable {P : Program} {w : World} {K : PySem.W.Frag} {mg : Str → Option Value} {base : Heap}
noncomputable abbrev Ctx.hp (z : Ctx K mg) : Heap := z.h.choose
theorem Ctx.k (z : Ctx K mg) : K.In z.hp := z.h.choose_spec.1
theorem Ctx.n (z : Ctx K mg) : z.hp.Ns mainGlobals mg := z.h.choose_spec.2
theorem Ctx.f_slack (z : Ctx K mg) : FldOk K (Tc K) [1] "slack" := fun k hk => by
  simp only [List.contains_cons, List.contains_nil, Bool.or_false, Bool.or_eq_true, beq_iff_eq] at hk
  subst hk; exact ⟨(He.cls_ok (z.c.fact 4)), (He.noat_ok (z.c.fact 5))⟩
theorem Ctx.f_shift (z : Ctx K mg) : FldOk K (Tc K) [1] "shift" := fun k hk => by
  simp only [List.contains_cons, List.contains_nil, Bool.or_false, Bool.or_eq_true, beq_iff_eq] at hk
  subst hk; exact ⟨(He.cls_ok (z.c.fact 4)), (He.noat_ok (z.c.fact 6))⟩
theorem Ctx.f_floor (z : Ctx K mg) : FldOk K (Tc K) [1] "floor" := fun k hk => by
  simp only [List.contains_cons, List.contains_nil, Bool.or_false, Bool.or_eq_true, beq_iff_eq] at hk
  subst hk; exact ⟨(He.cls_ok (z.c.fact 4)), (He.noat_ok (z.c.fact 7))⟩
noncomputable abbrev fd_is_whole (z : Ctx K mg) : FuncData := (z.c.def_ 0 (d := d_is_whole) rfl).choose
theorem fS_is_whole (z : Ctx K mg) : FunD K "is_whole" "is_whole" (defArgs s_is_whole) (defBody s_is_whole) (defScope s_is_whole) [] [] (He.fAd K ("is_whole", none)) (fd_is_whole z) := (z.c.def_ 0 (d := d_is_whole) rfl).choose_spec
noncomputable abbrev fd_is_within (z : Ctx K mg) : FuncData := (z.c.def_ 1 (d := d_is_within) rfl).choose
theorem fS_is_within (z : Ctx K mg) : FunD K "is_within" "is_within" (defArgs s_is_within) (defBody s_is_within) (defScope s_is_within) [] [] (He.fAd K ("is_within", none)) (fd_is_within z) := (z.c.def_ 1 (d := d_is_within) rfl).choose_spec
noncomputable abbrev fd_Clock_init (z : Ctx K mg) : FuncData := (z.c.def_ 2 (d := d_Clock_init) rfl).choose
theorem fS_Clock_init (z : Ctx K mg) : FunD K "__init__" "Clock.__init__" (defArgs s_Clock_init) (defBody s_Clock_init) (defScope s_Clock_init) [] [("slack", .int 2)] (He.fAd K ("Clock", some "__init__")) (fd_Clock_init z) := (z.c.def_ 2 (d := d_Clock_init) rfl).choose_spec
noncomputable abbrev fd_Clock_lag (z : Ctx K mg) : FuncData := (z.c.def_ 3 (d := d_Clock_lag) rfl).choose
theorem fS_Clock_lag (z : Ctx K mg) : FunD K "lag" "Clock.lag" (defArgs s_Clock_lag) (defBody s_Clock_lag) (defScope s_Clock_lag) [] [] (He.fAd K ("Clock", some "lag")) (fd_Clock_lag z) := (z.c.def_ 3 (d := d_Clock_lag) rfl).choose_spec
noncomputable abbrev fd_Clock_reading (z : Ctx K mg) : FuncData := (z.c.def_ 4 (d := d_Clock_reading) rfl).choose
theorem fS_Clock_reading (z : Ctx K mg) : FunD K "reading" "Clock.reading" (defArgs s_Clock_reading) (defBody s_Clock_reading) (defScope s_Clock_reading) [] [] (He.fAd K ("Clock", some "reading")) (fd_Clock_reading z) := (z.c.def_ 4 (d := d_Clock_reading) rfl).choose_spec
noncomputable abbrev fd_NoClock_init (z : Ctx K mg) : FuncData := (z.c.def_ 5 (d := d_NoClock_init) rfl).choose
theorem fS_NoClock_init (z : Ctx K mg) : FunD K "__init__" "NoClock.__init__" (defArgs s_NoClock_init) (defBody s_NoClock_init) (defScope s_NoClock_init) [] [] (He.fAd K ("NoClock", some "__init__")) (fd_NoClock_init z) := (z.c.def_ 5 (d := d_NoClock_init) rfl).choose_spec
noncomputable abbrev fd_Clock_put (z : Ctx K mg) : FuncData := (z.c.def_ 6 (d := d_Clock_put) rfl).choose
theorem fS_Clock_put (z : Ctx K mg) : FunD K "put" "Clock.put" (defArgs s_Clock_put) (defBody s_Clock_put) (defScope s_Clock_put) [] [] (He.fAd K ("Clock", some "put")) (fd_Clock_put z) := (z.c.def_ 6 (d := d_Clock_put) rfl).choose_spec
noncomputable abbrev fd_law_bag (z : Ctx K mg) : FuncData := (z.c.def_ 7 (d := d_law_bag) rfl).choose
theorem fS_law_bag (z : Ctx K mg) : FunD K "_law_bag" "_law_bag" (defArgs s_law_bag) (defBody s_law_bag) (defScope s_law_bag) [] [] (He.fAd K ("_law_bag", none)) (fd_law_bag z) := (z.c.def_ 7 (d := d_law_bag) rfl).choose_spec
noncomputable abbrev fd_law_take (z : Ctx K mg) : FuncData := (z.c.def_ 8 (d := d_law_take) rfl).choose
theorem fS_law_take (z : Ctx K mg) : FunD K "_law_take" "_law_take" (defArgs s_law_take) (defBody s_law_take) (defScope s_law_take) [] [] (He.fAd K ("_law_take", none)) (fd_law_take z) := (z.c.def_ 8 (d := d_law_take) rfl).choose_spec
noncomputable abbrev fd_law_put (z : Ctx K mg) : FuncData := (z.c.def_ 9 (d := d_law_put) rfl).choose
theorem fS_law_put (z : Ctx K mg) : FunD K "_law_put" "_law_put" (defArgs s_law_put) (defBody s_law_put) (defScope s_law_put) [] [] (He.fAd K ("_law_put", none)) (fd_law_put z) := (z.c.def_ 9 (d := d_law_put) rfl).choose_spec
noncomputable abbrev fd_law (z : Ctx K mg) : FuncData := (z.c.def_ 10 (d := d_law) rfl).choose
theorem fS_law (z : Ctx K mg) : FunD K "law" "law" (defArgs s_law) (defBody s_law) (defScope s_law) [] [] (He.fAd K ("law", none)) (fd_law z) := (z.c.def_ 10 (d := d_law) rfl).choose_spec
theorem bd_is_whole_1 (z : Ctx K mg) : Bd K (fd_is_whole z) ["thing"] 1 [] [(.us, 0)] [] [] := by
  exact bd_n (fS_is_whole z) fun _ _ _ _ _ _ us ws h1 h2 => match us, ws, h1, h2 with | [_], [], _, _ => rfl
theorem ok_is_whole (z : Ctx K mg) : Fn P w K (Tc K) mg base 1 (He.fAd K ("is_whole", none)) (fd_is_whole z) ["thing"] f_is_whole :=
  Fn.of (N := N_is_whole) (b := b_is_whole) (fS_is_whole z) sc_is_whole fun cdv A outer s H E hr => by
    have sc := sc_is_whole
    have tk : Takes (cxOf (L2.CX P w) P w K mg base N_is_whole "is_whole" (defScope s_is_whole) (He.fAd K ("is_whole", none)) cdv A outer s H E) (fun cls d _ H' => E cls d H') := takes_of rfl rfl rfl rfl
    unfold b_is_whole
    exact s_one (s_ret (r_and (r_isi ii_int (He.free_ok z.k z.n (z.c.fact 0)) (He.free_ok z.k z.n (z.c.fact 1)) boot_int (r_var 0)) (r_one (r_not (r_isi ii_bool (He.free_ok z.k z.n (z.c.fact 0)) (He.free_ok z.k z.n (z.c.fact 2)) boot_bool (r_var 0))))))
theorem bd_is_within_3 (z : Ctx K mg) : Bd K (fd_is_within z) ["thing", "least", "most"] 3 [] [(.us, 0), (.us, 1), (.us, 2)] [] [] := by
  exact bd_n (fS_is_within z) fun _ _ _ _ _ _ us ws h1 h2 => match us, ws, h1, h2 with | [_, _, _], [], _, _ => rfl
theorem ok_is_within (z : Ctx K mg) : Fn P w K (Tc K) mg base 2 (He.fAd K ("is_within", none)) (fd_is_within z) ["thing", "least", "most"] f_is_within :=
  Fn.of (N := N_is_within) (b := b_is_within) (fS_is_within z) sc_is_within fun cdv A outer s H E hr => by
    have sc := sc_is_within
    have tk : Takes (cxOf (L2.CX P w) P w K mg base N_is_within "is_within" (defScope s_is_within) (He.fAd K ("is_within", none)) cdv A outer s H E) (fun cls d _ H' => E cls d H') := takes_of rfl rfl rfl rfl
    unfold b_is_within
    exact s_one (s_ret (r_and (r_call tk (ok_is_whole z) (hr.mono (by decide)) (He.glo_ok z.k z.n (z.c.fact 3)) (fS_is_whole z).kp (bd_is_whole_1 z) rl0 rl0 (caPm (r_cons (r_var 0) (r_nil)))) (r_one (r_chain op_le g_le op_le g_le (r_var 1) (r_var 0) (r_var 2)))))
theorem bd_Clock_init_1_slack (z : Ctx K mg) : Bd K (fd_Clock_init z) ["self", "slack"] 1 ["slack"] [(.us, 0), (.ws, 0)] [] [] := by
  exact bd_n (fS_Clock_init z) fun _ _ _ _ _ _ us ws h1 h2 => match us, ws, h1, h2 with | [_], [_], _, _ => rfl
theorem ok_Clock_init (z : Ctx K mg) : Fn P w K (Tc K) mg base 1 (He.fAd K ("Clock", some "__init__")) (fd_Clock_init z) ["self", "slack"] f_Clock_init :=
  Fn.of (N := N_Clock_init) (b := b_Clock_init) (fS_Clock_init z) sc_Clock_init fun cdv A outer s H E hr => by
    have sc := sc_Clock_init
    have tk : Takes (cxOf (L2.CX P w) P w K mg base N_Clock_init "Clock.__init__" (defScope s_Clock_init) (He.fAd K ("Clock", some "__init__")) cdv A outer s H E) (fun cls d _ H' => E cls d H') := takes_of rfl rfl rfl rfl
    unfold b_Clock_init
    exact s_cons (s_fld (z.f_slack) (r_var 0) (r_var 1)) (s_cons (s_fld (z.f_shift) (r_var 0) (r_int)) (s_one (s_fld (z.f_floor) (r_var 0) (r_non))))
theorem bd_Clock_lag_1 (z : Ctx K mg) : Bd K (fd_Clock_lag z) ["self"] 1 [] [(.us, 0)] [] [] := by
  exact bd_n (fS_Clock_lag z) fun _ _ _ _ _ _ us ws h1 h2 => match us, ws, h1, h2 with | [_], [], _, _ => rfl
theorem ok_Clock_lag (z : Ctx K mg) : Fn P w K (Tc K) mg base 1 (He.fAd K ("Clock", some "lag")) (fd_Clock_lag z) ["self"] f_Clock_lag :=
  Fn.of (N := N_Clock_lag) (b := b_Clock_lag) (fS_Clock_lag z) sc_Clock_lag fun cdv A outer s H E hr => by
    have sc := sc_Clock_lag
    have tk : Takes (cxOf (L2.CX P w) P w K mg base N_Clock_lag "Clock.lag" (defScope s_Clock_lag) (He.fAd K ("Clock", some "lag")) cdv A outer s H E) (fun cls d _ H' => E cls d H') := takes_of rfl rfl rfl rfl
    unfold b_Clock_lag
    exact s_one (s_ret (r_fld (z.f_shift) (r_var 0)))
theorem bd_Clock_reading_2 (z : Ctx K mg) : Bd K (fd_Clock_reading z) ["self", "now"] 2 [] [(.us, 0), (.us, 1)] [] [] := by
  exact bd_n (fS_Clock_reading z) fun _ _ _ _ _ _ us ws h1 h2 => match us, ws, h1, h2 with | [_, _], [], _, _ => rfl
theorem ok_Clock_reading (z : Ctx K mg) : Fn P w K (Tc K) mg base 1 (He.fAd K ("Clock", some "reading")) (fd_Clock_reading z) ["self", "now"] f_Clock_reading :=
  Fn.of (N := N_Clock_reading) (b := b_Clock_reading) (fS_Clock_reading z) sc_Clock_reading fun cdv A outer s H E hr => by
    have sc := sc_Clock_reading
    have tk : Takes (cxOf (L2.CX P w) P w K mg base N_Clock_reading "Clock.reading" (defScope s_Clock_reading) (He.fAd K ("Clock", some "reading")) cdv A outer s H E) (fun cls d _ H' => E cls d H') := takes_of rfl rfl rfl rfl
    unfold b_Clock_reading
    exact s_cons (s_if (t_cmp op_isN g_is (r_fld (z.f_floor) (r_var 0)) (r_non) (nomark _)) (s_one (s_ret (r_op o_add g_add (r_var 1) (r_fld (z.f_shift) (r_var 0))))) (s_nil)) (s_one (s_ret (r_fn (call_max2 rfl) n_max2 (He.free_ok z.k z.n (z.c.fact 8)) (boot_max) (r_cons (r_op o_add g_add (r_var 1) (r_fld (z.f_shift) (r_var 0))) (r_cons (r_fld (z.f_floor) (r_var 0)) (r_nil))))))
theorem bx_NoClock_init (z : Ctx K mg) : Binds K (fd_NoClock_init z) ["self", "asked", "slack"] [] := FunD.bindsN (fS_NoClock_init z) (fun _ _ _ _ _ _ us hl => match us, hl with | [_, _, _], _ => rfl)
theorem ok_NoClock_init (z : Ctx K mg) : FnOk P w K mg base (L2.CX P w) 1 (He.fAd K ("NoClock", some "__init__")) (fd_NoClock_init z) ["self", "asked", "slack"] (spXi (He.ga K "NoClock") ["asked", "slack"]) :=
  init2_ok PySem.F.store_ArithmeticError (xk_ok (xAll_at z.x 1)) (tk_ok (xAll_at z.x 2)) (tk_ok (xAll_at z.x 3)) (fS_NoClock_init z) sc_NoClock_init (.inl rfl) (.inl rfl) (.inl rfl)
theorem bd_Clock_put_2_lag (z : Ctx K mg) : Bd K (fd_Clock_put z) ["self", "now", "lag"] 2 ["lag"] [(.us, 0), (.us, 1), (.ws, 0)] [] [] := by
  exact bd_n (fS_Clock_put z) fun _ _ _ _ _ _ us ws h1 h2 => match us, ws, h1, h2 with | [_, _], [_], _, _ => rfl
theorem ok_Clock_put (z : Ctx K mg) : Fn P w K (Tc K) mg base 3 (He.fAd K ("Clock", some "put")) (fd_Clock_put z) ["self", "now", "lag"] f_Clock_put :=
  Fn.of (N := N_Clock_put) (b := b_Clock_put) (fS_Clock_put z) sc_Clock_put fun cdv A outer s H E hr => by
    have sc := sc_Clock_put
    have tk : Takes (cxOf (L2.CX P w) P w K mg base N_Clock_put "Clock.put" (defScope s_Clock_put) (He.fAd K ("Clock", some "put")) cdv A outer s H E) (fun cls d _ H' => E cls d H') := takes_of rfl rfl rfl rfl
    unfold b_Clock_put
    exact s_cons (s_if (t_not (t_truth (r_call tk (ok_is_within z) (hr.mono (by decide)) (He.glo_ok z.k z.n (z.c.fact 9)) (fS_is_within z).kp (bd_is_within_3 z) rl0 rl0 (caPm (r_cons (r_var 2) (r_cons (r_un un_neg g_neg (r_fld (z.f_slack) (r_var 0))) (r_cons (r_fld (z.f_slack) (r_var 0)) (r_nil)))))))) (s_one (s_raise (T := Tc K) (cl := 0) (fs := ["asked", "slack"]) rfl tk (pmk_x PySem.F.excBase_ArithmeticError (xk_ok (xAll_at z.x 1)) (ini_ok1 (xAll_at z.x 0)) (ini_ok2 (xAll_at z.x 0)) (ok_NoClock_init z) (hr.r.mono (by decide)) rfl (by decide) (bx_NoClock_init z) rfl (He.glo_ok z.k z.n (z.c.fact 10)) (r_cons (r_var 2) (r_cons (r_fld (z.f_slack) (r_var 0)) (r_nil)))))) (s_nil)) (s_one (s_asg (r_tup (r_cons (r_meth (T := Tc K) (cl := 1) tk (r_var 0) (He.cls_ok (z.c.fact 4)) (He.meth_ok (z.c.fact 11)) (ok_Clock_reading z) (hr.mono (by decide)) (bd_Clock_reading_2 z) rl0 rl0 (caPm (r_cons (r_var 1) (r_nil)))) (r_cons (r_var 2) (r_nil)))) (g_tp rfl (gs_cons (g_fld (z.f_floor) (r_var 0)) (gs_cons (g_fld (z.f_shift) (r_var 0)) (gs_nil))))))
theorem bd_law_bag_2 (z : Ctx K mg) : Bd K (fd_law_bag z) ["_law_script", "_law_at"] 2 [] [(.us, 0), (.us, 1)] [] [] := by
  exact bd_n (fS_law_bag z) fun _ _ _ _ _ _ us ws h1 h2 => match us, ws, h1, h2 with | [_, _], [], _, _ => rfl
theorem ok_law_bag (z : Ctx K mg) : Fn P w K (Tc K) mg base 1 (He.fAd K ("_law_bag", none)) (fd_law_bag z) ["_law_script", "_law_at"] f_law_bag :=
  Fn.of (N := N_law_bag) (b := b_law_bag) (fS_law_bag z) sc_law_bag fun cdv A outer s H E hr => by
    have sc := sc_law_bag
    have tk : Takes (cxOf (L2.CX P w) P w K mg base N_law_bag "_law_bag" (defScope s_law_bag) (He.fAd K ("_law_bag", none)) cdv A outer s H E) (fun cls d _ H' => E cls d H') := takes_of rfl rfl rfl rfl
    unfold b_law_bag
    exact s_cons (s_set (i := 2) sc.nd (r_op o_add g_add (r_op op_mul g_mul (r_int) (r_var 1)) (r_int))) (s_cons (s_if (t_cmp op_lt g_lt (r_var 1) (r_fn c_len n_len (He.free_ok z.k z.n (z.c.fact 12)) (PySem.boot_len) (r_cons (r_var 0) (r_nil))) (nomark _)) (s_one (s_set (i := 2) sc.nd (r_ix (r_var 0) (r_var 1)))) (s_nil)) (s_one (s_ret (r_lstN (r_cons (r_op op_mul g_mul (r_fn call_abs n_abs (He.free_ok z.k z.n (z.c.fact 13)) (boot_abs) (r_cons (r_var 2) (r_nil))) (r_ty call_int1 n_int (He.free_ok z.k z.n (z.c.fact 1)) (boot_int) (r_cons (r_cmp op_ge g_ge (r_fn call_abs n_abs (He.free_ok z.k z.n (z.c.fact 13)) (boot_abs) (r_cons (r_var 2) (r_nil))) (r_op op_pow2 g_pow (r_int) (r_int)) (nomark _)) (r_nil)))) (r_cons (r_op o_add g_add (r_op op_mod g_mod (r_var 2) (r_int)) (r_op op_mul g_mul (r_int) (r_var 1))) (r_cons (r_int) (r_nil))))))))
theorem bd_law_take_2 (z : Ctx K mg) : Bd K (fd_law_take z) ["_law_bag_here", "_law_many"] 2 [] [(.us, 0), (.us, 1)] [] [] := by
  exact bd_n (fS_law_take z) fun _ _ _ _ _ _ us ws h1 h2 => match us, ws, h1, h2 with | [_, _], [], _, _ => rfl
theorem ok_law_take (z : Ctx K mg) : Fn P w K (Tc K) mg base 1 (He.fAd K ("_law_take", none)) (fd_law_take z) ["_law_bag_here", "_law_many"] f_law_take :=
  Fn.of (N := N_law_take) (b := b_law_take) (fS_law_take z) sc_law_take fun cdv A outer s H E hr => by
    have sc := sc_law_take
    have tk : Takes (cxOf (L2.CX P w) P w K mg base N_law_take "_law_take" (defScope s_law_take) (He.fAd K ("_law_take", none)) cdv A outer s H E) (fun cls d _ H' => E cls d H') := takes_of rfl rfl rfl rfl
    unfold b_law_take
    exact s_cons (s_if (t_cmp op_gt g_gt (r_ix (r_var 0) (r_int)) (r_int) (nomark _)) (s_cons (s_set (i := 2) sc.nd (r_op op_mod g_mod (r_ix (r_var 0) (r_int)) (r_var 1))) (s_cons (s_asg (r_op op_fdivW g_div (r_ix (r_var 0) (r_int)) (r_var 1)) (g_ixs (r_var 0) (r_int))) (s_one (s_ret (r_var 2))))) (s_nil)) (s_cons (s_set (i := 3) sc.nd (r_tup (r_cons (r_int) (r_cons (r_int) (r_cons (r_int) (r_cons (r_int) (r_cons (r_int) (r_cons (r_int) (r_cons (r_int) (r_cons (r_int) (r_nil))))))))))) (s_cons (s_asg (r_op o_add g_add (r_ix (r_var 0) (r_int)) (r_int)) (g_ixs (r_var 0) (r_int))) (s_cons (s_set (i := 4) sc.nd (r_ix (r_var 0) (r_int))) (s_cons (s_set (i := 5) sc.nd (r_op o_add g_add (r_op op_mul g_mul (r_op o_add g_add (r_ix (r_var 0) (r_int)) (r_int)) (r_op o_add g_add (r_op op_mul g_mul (r_int) (r_var 4)) (r_int))) (r_op op_mul g_mul (r_op op_mul g_mul (r_int) (r_var 4)) (r_var 4)))) (s_cons (s_set (i := 6) sc.nd (r_op op_mod g_mod (r_op op_pow2 g_pow (r_var 5) (r_int)) (r_ix (r_var 3) (r_op op_mod g_mod (r_var 4) (r_int))))) (s_one (s_ret (r_op op_mod g_mod (r_op op_fdivW g_div (r_op op_mod g_mod (r_op op_mul g_mul (r_var 6) (r_op o_add g_add (r_op op_fdivW g_div (r_var 6) (r_int)) (r_int))) (r_ix (r_var 3) (r_op op_mod g_mod (r_op o_add g_add (r_var 4) (r_int)) (r_int)))) (r_int)) (r_var 1)))))))))
theorem bd_law_put_3 (z : Ctx K mg) : Bd K (fd_law_put z) ["_law_clock", "_law_now", "_law_shift"] 3 [] [(.us, 0), (.us, 1), (.us, 2)] [] [] := by
  exact bd_n (fS_law_put z) fun _ _ _ _ _ _ us ws h1 h2 => match us, ws, h1, h2 with | [_, _, _], [], _, _ => rfl
theorem ok_law_put (z : Ctx K mg) : Fn P w K (Tc K) mg base 4 (He.fAd K ("_law_put", none)) (fd_law_put z) ["_law_clock", "_law_now", "_law_shift"] f_law_put :=
  Fn.of (N := N_law_put) (b := b_law_put) (fS_law_put z) sc_law_put fun cdv A outer s H E hr => by
    have sc := sc_law_put
    have tk : Takes (cxOf (L2.CX P w) P w K mg base N_law_put "_law_put" (defScope s_law_put) (He.fAd K ("_law_put", none)) cdv A outer s H E) (fun cls d _ H' => E cls d H') := takes_of rfl rfl rfl rfl
    unfold b_law_put
    exact s_cons (s_tryO (T := Tc K) (cs := [(0, true)]) rfl rfl ⟨rfl, by decide, .inl (He.glo_ok z.k z.n (z.c.fact 10))⟩ tk (List.forall_mem_cons.mpr ⟨(He.exm_ok (z.c.fact 15)), (fun _ h => nomatch h)⟩) (fun W' pn xe tk pw => s_one (s_exp (r_meth (T := Tc K) (cl := 1) tk (r_var 0) (He.cls_ok (z.c.fact 4)) (He.meth_ok (z.c.fact 14)) (ok_Clock_put z) (hr.mono (by decide)) (bd_Clock_put_2_lag z) rl0 rl0 (caPKm (r_cons (r_var 1) (r_nil)) (k_cons (r_var 2) (k_nil)))))) (fun a oe pn => s_one (s_ret (r_bl)))) (s_one (s_ret (r_bl)))
theorem ok_law (z : Ctx K mg) : Fn P w K (Tc K) mg base 5 (He.fAd K ("law", none)) (fd_law z) ["_law_script"] f_law :=
  Fn.of (N := N_law) (b := b_law) (fS_law z) sc_law fun cdv A outer s H E hr => by
    have sc := sc_law
    have tk : Takes (cxOf (L2.CX P w) P w K mg base N_law "law" (defScope s_law) (He.fAd K ("law", none)) cdv A outer s H E) (fun cls d _ H' => E cls d H') := takes_of rfl rfl rfl rfl
    unfold b_law
    exact s_cons (s_for (passes_of rfl) rfl (i_rng1 (He.free_ok z.k z.n (z.c.fact 17)) (r_fn (call_max2 rfl) n_max2 (He.free_ok z.k z.n (z.c.fact 8)) (boot_max) (r_cons (r_int) (r_cons (r_fn (call_min2 rfl) n_min2 (He.free_ok z.k z.n (z.c.fact 16)) (boot_min) (r_cons (r_int) (r_cons (r_fn c_len n_len (He.free_ok z.k z.n (z.c.fact 12)) (PySem.boot_len) (r_cons (r_var 0) (r_nil))) (r_nil)))) (r_nil))))) (g_nm (i := 1) sc.nd) (s_cons (s_set (i := 2) sc.nd (r_call tk (ok_law_bag z) (hr.mono (by decide)) (He.glo_ok z.k z.n (z.c.fact 18)) (fS_law_bag z).kp (bd_law_bag_2 z) rl0 rl0 (caPm (r_cons (r_var 0) (r_cons (r_var 1) (r_nil)))))) (s_cons (s_set (i := 3) sc.nd (r_ix (r_lst (r_cons (r_int) (r_cons (r_op o_add g_add (r_int) (r_call tk (ok_law_take z) (hr.mono (by decide)) (He.glo_ok z.k z.n (z.c.fact 19)) (fS_law_take z).kp (bd_law_take_2 z) rl0 rl0 (caPm (r_cons (r_var 2) (r_cons (r_int) (r_nil)))))) (r_cons (r_call tk (ok_law_take z) (hr.mono (by decide)) (He.glo_ok z.k z.n (z.c.fact 19)) (fS_law_take z).kp (bd_law_take_2 z) rl0 rl0 (caPm (r_cons (r_var 2) (r_cons (r_int) (r_nil))))) (r_cons (r_int) (r_nil)))))) (r_call tk (ok_law_take z) (hr.mono (by decide)) (He.glo_ok z.k z.n (z.c.fact 19)) (fS_law_take z).kp (bd_law_take_2 z) rl0 rl0 (caPm (r_cons (r_var 2) (r_cons (r_int) (r_nil))))))) (s_cons (s_set (i := 4) sc.nd (r_lst (r_cons (r_make (T := Tc K) (cl := 1) tk (He.mkr_ok (z.c.fact 20)) (ok_Clock_init z) (hr.mono (by decide)) (He.glo_ok z.k z.n (z.c.fact 21)) (bd_Clock_init_1_slack z) rl0 rl0 (caKm (k_cons (r_var 3) (k_nil)))) (r_cons (r_make (T := Tc K) (cl := 1) tk (He.mkr_ok (z.c.fact 20)) (ok_Clock_init z) (hr.mono (by decide)) (He.glo_ok z.k z.n (z.c.fact 21)) (bd_Clock_init_1_slack z) rl0 rl0 (caKm (k_cons (r_var 3) (k_nil)))) (r_nil))))) (s_cons (s_set (i := 5) sc.nd (r_ix (r_lst (r_cons (r_int) (r_cons (r_op op_sub g_sub (r_call tk (ok_law_take z) (hr.mono (by decide)) (He.glo_ok z.k z.n (z.c.fact 19)) (fS_law_take z).kp (bd_law_take_2 z) rl0 rl0 (caPm (r_cons (r_var 2) (r_cons (r_int) (r_nil))))) (r_int)) (r_cons (r_op op_sub g_sub (r_int) (r_call tk (ok_law_take z) (hr.mono (by decide)) (He.glo_ok z.k z.n (z.c.fact 19)) (fS_law_take z).kp (bd_law_take_2 z) rl0 rl0 (caPm (r_cons (r_var 2) (r_cons (r_op op_pow2 g_pow (r_int) (r_int)) (r_nil)))))) (r_nil))))) (r_call tk (ok_law_take z) (hr.mono (by decide)) (He.glo_ok z.k z.n (z.c.fact 19)) (fS_law_take z).kp (bd_law_take_2 z) rl0 rl0 (caPm (r_cons (r_var 2) (r_cons (r_int) (r_nil))))))) (s_cons (s_comp (i := 6) rfl sc.nd (own := [("_law_clock", 12)]) (g := (.one 12)) (i_seq (r_var 4)) (blkOk_by (N := N_law) (sc := defScope s_law) (by decide +kernel)) (fun _ _ _ _ _ => pg_name (i := 12) sc.nd rfl (Or.inl rfl)) (fun _ _ _ _ _ => ts_nil) (fun _ _ _ _ _ => r_meth (T := Tc K) (cl := 1) takes0 (r_var 12) (He.cls_ok (z.c.fact 4)) (He.meth_ok (z.c.fact 11)) (ok_Clock_reading z) (hr.mono (by decide)) (bd_Clock_reading_2 z) rl0 rl0 (caPm (r_cons (r_var 5) (r_nil)))) (sw_true rfl rfl rfl (by decide +kernel))) (s_one (s_for (passes_of rfl) rfl (i_rng1 (He.free_ok z.k z.n (z.c.fact 17)) (r_op o_add g_add (r_int) (r_call tk (ok_law_take z) (hr.mono (by decide)) (He.glo_ok z.k z.n (z.c.fact 19)) (fS_law_take z).kp (bd_law_take_2 z) rl0 rl0 (caPm (r_cons (r_var 2) (r_cons (r_int) (r_nil))))))) (g_nm (i := 7) sc.nd) (s_cons (s_set (i := 5) sc.nd (r_op o_add g_add (r_var 5) (r_ix (r_lst (r_cons (r_int) (r_cons (r_int) (r_cons (r_call tk (ok_law_take z) (hr.mono (by decide)) (He.glo_ok z.k z.n (z.c.fact 19)) (fS_law_take z).kp (bd_law_take_2 z) rl0 rl0 (caPm (r_cons (r_var 2) (r_cons (r_int) (r_nil))))) (r_cons (r_call tk (ok_law_take z) (hr.mono (by decide)) (He.glo_ok z.k z.n (z.c.fact 19)) (fS_law_take z).kp (bd_law_take_2 z) rl0 rl0 (caPm (r_cons (r_var 2) (r_cons (r_int) (r_nil))))) (r_nil)))))) (r_call tk (ok_law_take z) (hr.mono (by decide)) (He.glo_ok z.k z.n (z.c.fact 19)) (fS_law_take z).kp (bd_law_take_2 z) rl0 rl0 (caPm (r_cons (r_var 2) (r_cons (r_int) (r_nil)))))))) (s_cons (s_set (i := 8) sc.nd (r_call tk (ok_law_take z) (hr.mono (by decide)) (He.glo_ok z.k z.n (z.c.fact 19)) (fS_law_take z).kp (bd_law_take_2 z) rl0 rl0 (caPm (r_cons (r_var 2) (r_cons (r_int) (r_nil)))))) (s_cons (s_set (i := 9) sc.nd (r_lst (r_cons (r_meth (T := Tc K) (cl := 1) tk (r_ix (r_var 4) (r_op op_sub g_sub (r_int) (r_var 8))) (He.cls_ok (z.c.fact 4)) (He.meth_ok (z.c.fact 22)) (ok_Clock_lag z) (hr.mono (by decide)) (bd_Clock_lag_1 z) rl0 rl0 (ca0m)) (r_cons (r_meth (T := Tc K) (cl := 1) tk (r_ix (r_var 4) (r_op op_sub g_sub (r_int) (r_var 8))) (He.cls_ok (z.c.fact 4)) (He.meth_ok (z.c.fact 11)) (ok_Clock_reading z) (hr.mono (by decide)) (bd_Clock_reading_2 z) rl0 rl0 (caPm (r_cons (r_var 5) (r_nil)))) (r_nil))))) (s_cons (s_set (i := 10) sc.nd (r_ix (r_lst (r_cons (r_var 3) (r_cons (r_op op_sub g_sub (r_int) (r_var 3)) (r_cons (r_op op_sub g_sub (r_call tk (ok_law_take z) (hr.mono (by decide)) (He.glo_ok z.k z.n (z.c.fact 19)) (fS_law_take z).kp (bd_law_take_2 z) rl0 rl0 (caPm (r_cons (r_var 2) (r_cons (r_op o_add g_add (r_op op_mul g_mul (r_int) (r_var 3)) (r_int)) (r_nil))))) (r_var 3)) (r_cons (r_op o_add g_add (r_var 3) (r_int)) (r_nil)))))) (r_call tk (ok_law_take z) (hr.mono (by decide)) (He.glo_ok z.k z.n (z.c.fact 19)) (fS_law_take z).kp (bd_law_take_2 z) rl0 rl0 (caPm (r_cons (r_var 2) (r_cons (r_int) (r_nil))))))) (s_cons (s_if (t_pw (w_and (t_cmp op_gt g_gt (r_call tk (ok_law_take z) (hr.mono (by decide)) (He.glo_ok z.k z.n (z.c.fact 19)) (fS_law_take z).kp (bd_law_take_2 z) rl0 rl0 (caPm (r_cons (r_var 2) (r_cons (r_int) (r_nil))))) (r_int) (nomark _)) (w_and1 (t_cmp (o_ne hr) g_ne (r_call tk (ok_law_put z) (hr.mono (by decide)) (He.glo_ok z.k z.n (z.c.fact 23)) (fS_law_put z).kp (bd_law_put_3 z) rl0 rl0 (caPm (r_cons (r_ix (r_var 4) (r_var 8)) (r_cons (r_var 5) (r_cons (r_var 10) (r_nil)))))) (r_cmp op_le g_le (r_var 10) (r_var 3) (nomark _)) (nomark _))))) (s_one (s_ret (r_bl))) (s_nil)) (s_cons (s_if (t_cmp (o_ne hr) g_ne (r_lst (r_cons (r_meth (T := Tc K) (cl := 1) tk (r_ix (r_var 4) (r_op op_sub g_sub (r_int) (r_var 8))) (He.cls_ok (z.c.fact 4)) (He.meth_ok (z.c.fact 22)) (ok_Clock_lag z) (hr.mono (by decide)) (bd_Clock_lag_1 z) rl0 rl0 (ca0m)) (r_cons (r_meth (T := Tc K) (cl := 1) tk (r_ix (r_var 4) (r_op op_sub g_sub (r_int) (r_var 8))) (He.cls_ok (z.c.fact 4)) (He.meth_ok (z.c.fact 11)) (ok_Clock_reading z) (hr.mono (by decide)) (bd_Clock_reading_2 z) rl0 rl0 (caPm (r_cons (r_var 5) (r_nil)))) (r_nil)))) (r_var 9) (nomark _)) (s_one (s_ret (r_bl))) (s_nil)) (s_cons (s_comp (i := 11) rfl sc.nd (own := [("_law_clock", 12)]) (g := (.one 12)) (i_seq (r_var 4)) (blkOk_by (N := N_law) (sc := defScope s_law) (by decide +kernel)) (fun _ _ _ _ _ => pg_name (i := 12) sc.nd rfl (Or.inl rfl)) (fun _ _ _ _ _ => ts_nil) (fun _ _ _ _ _ => r_meth (T := Tc K) (cl := 1) takes0 (r_var 12) (He.cls_ok (z.c.fact 4)) (He.meth_ok (z.c.fact 11)) (ok_Clock_reading z) (hr.mono (by decide)) (bd_Clock_reading_2 z) rl0 rl0 (caPm (r_cons (r_var 5) (r_nil)))) (sw_true rfl rfl rfl (by decide +kernel))) (s_cons (s_if (t_pw (w_or (t_truth (r_fn (cr_any rfl) n_any (He.free_ok z.k z.n (z.c.fact 24)) (boot_any) (r_cons (r_comp rfl sc.nd (own := [("_law_reading", 13)]) (g := (.one 13)) (i_seq (r_var 11)) (blkOk_by (N := N_law) (sc := defScope s_law) (by decide +kernel)) (fun _ _ _ _ _ => pg_name (i := 13) sc.nd rfl (Or.inl rfl)) (fun _ _ _ _ _ => ts_nil) (fun _ _ _ _ _ => r_cmp op_gt g_gt (r_fn call_abs n_abs (He.free_ok z.k z.n (z.c.fact 13)) (boot_abs) (r_cons (r_op op_sub g_sub (r_var 13) (r_var 5)) (r_nil))) (r_var 3) (nomark _))) (r_nil)))) (w_or1 (t_cmp op_gt g_gt (r_fn call_abs n_abs (He.free_ok z.k z.n (z.c.fact 13)) (boot_abs) (r_cons (r_op op_sub g_sub (r_ix (r_var 11) (r_int)) (r_ix (r_var 11) (r_int))) (r_nil))) (r_op op_mul g_mul (r_int) (r_var 3)) (nomark _))))) (s_one (s_ret (r_bl))) (s_nil)) (s_cons (s_if (t_pw (w_or (t_cmp op_lt g_lt (r_ix (r_var 11) (r_int)) (r_ix (r_var 6) (r_int)) (nomark _)) (w_or1 (t_cmp op_lt g_lt (r_ix (r_var 11) (r_int)) (r_ix (r_var 6) (r_int)) (nomark _))))) (s_one (s_ret (r_bl))) (s_nil)) (s_one (s_set (i := 6) sc.nd (r_var 11)))))))))))))))))))) (s_one (s_ret (r_bl)))
end
end K34
set_option Elab.async false
set_option linter.all false
set_option maxRecDepth 100000
set_option maxHeartbeats 0
namespace K34
open PySem PySem.Spec L2 MP
open PyProof.Rows hiding St
abbrev R : PySem.W.OpenRow := PySem.W.OpenLaw.row PySem.Challenge.rw_leasepair_k34_whole_clocks_within_the_sl
abbrev hk : PySem.W.Hook := MP.hookE 6 fa fns (xAll xa)
def ob (s : PySem.W.SharedT) : He.AlD × Bool := MP.obsE 6 fa fns (xAll xa) (HandSHeadRun.getT s)
theorem ob_eq (s : PySem.W.SharedT) : ob s = hk.obs s.abs := MP.obsE_eq (HandSHeadRun.getT_eq s)
def loose : List PySem.Str := ["NoClock", "is_whole", "is_within", "Clock", "_law_bag", "_law_take", "_law_put", "SLACK"]
theorem run (w : World) : HandSHeadRun.RunEq R (PySem.W.view R.prog [12]) hk ob 4000 loose w := by
  intro os
  kernel_rfl
theorem bdA_law {K : PySem.W.Frag} {mg : Str → Option Value} (z : Ctx K mg) (s : Shared) (v : Value) : BindsTo s (fd_law z) ⟨[v], []⟩ [("_law_script", v)] := FunD.bindsA (ps := ["_law_script"]) (fS_law z) (fun _ _ _ _ _ _ us hl => match us, hl with | [_], _ => rfl) s [v] rfl
end K34
open PySem PySem.W PySem.Calls PyProof.Rows
theorem K34.holds_of (hm : MP.LawTrue K34.f_law) : PySem.Challenge.rw_leasepair_k34_whole_clocks_within_the_sl.Holds := by
  w_on; o_law
  refine HandSHeadRun.head_any (r := OpenLaw.row PySem.Challenge.rw_leasepair_k34_whole_clocks_within_the_sl) (q := view (OpenLaw.row PySem.Challenge.rw_leasepair_k34_whole_clocks_within_the_sl).prog [12]) (H := K34.hk) (ob := K34.ob) (M := 4000) (loose := K34.loose) (d := HandSHeadRun.topDef (OpenLaw.row PySem.Challenge.rw_leasepair_k34_whole_clocks_within_the_sl).prog 12) (kwd := []) K34.ob_eq
    (by kernel_rfl) (fun s => by kernel_rfl) K34.run (by kernel_rfl) (by kernel_rfl) (by kernel_rfl) (by rfl) (by first | assumption | decide +kernel) (by decide +kernel) ⟨rfl, rfl, rfl, rfl, rfl, by decide +kernel⟩ ?hw ?hc
  case hw => w_witness2
  case hc =>
    refine MP.walk_law (l := PySem.Challenge.rw_leasepair_k34_whole_clocks_within_the_sl) (k := 5) (x := "_law_script") (m := K34.f_law) rfl (by kernel_rfl) ⟨⟨rfl, by decide, by decide⟩, rfl⟩ ?F hm
    intro w mg fa h Y G hmg0
    obtain ⟨K, KX, c, xx⟩ := Y
    have hmg : mg ("law" : PySem.Str) = some (.ref fa) := by
      have e : (HandSHeadRun.topDef (OpenLaw.row PySem.Challenge.rw_leasepair_k34_whole_clocks_within_the_sl).prog 12).name = ("law" : PySem.Str) := by kernel_rfl
      rw [← e]
      exact hmg0
    have z : K34.Ctx K mg := ⟨c, xx, h, KX, G⟩
    have e := hmg.symm.trans (He.glo_ok z.k z.n (z.c.fact 25))
    cases e
    exact ⟨K, K34.Tc K, K34.fd_law z, KX, fun s u => K34.bdA_law z s u, fun base _ _ => K34.ok_law z⟩
theorem PySem.Challenge.cw_leasepair_k34_whole_clocks_within_the_sl_holds : PySem.Challenge.rw_leasepair_k34_whole_clocks_within_the_sl.Holds := by
  exact K34.holds_of K34.law_true
